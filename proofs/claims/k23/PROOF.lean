import PyProof.Rows.All
import HandS.ForMost
import HandS.Wide
import HandS.Conv
import HandS.Zip
import HandS.Deep
import HandS.Style
import HandS.TupAny
import HandS.TupMul
import HandS.Flow
import HandS.More
import HandS.SortInts
import HandS.IsInst
import KE.DataMinMax
import KE.KSortedM
import HandS.SetFor
import PySem.Challenge.RW_onewish_k23_what_is_a_log
set_option Elab.async false
set_option linter.all false
set_option maxRecDepth 100000
/-! M1: data, trees with owned parts, how they stand in the abstract heap. -/
namespace M
open PySem PySem.Spec PyProof.Rows L2

abbrev D := PyData
def keyD : Key → D
  | .inl i => .int i
  | .inr x => .str x

/-! ### frozen data -/
mutual
inductive Rp (K : PySem.W.Frag) (G : Hp) : V → D → Prop
  | non : Rp K G .non .none
  | bl (b : Bool) : Rp K G (.bl b) (.bool b)
  | int (i : Int) : Rp K G (.int i) (.int i)
  | str (x : Str) : Rp K G (.str x) (.str x)
  | lst {a : Addr} {xs : List V} {ds : List D} : G a = some (.lst xs) → Rps K G xs ds → Rp K G (.ref a) (.list ds)
  | tup {a : Addr} {xs : List V} {ds : List D} : SqT K G a xs → Rps K G xs ds → Rp K G (.ref a) (.tuple ds)
  | dct {a : Addr} {kvs : List (Key × V)} {ds : List (D × D)} : G a = some (.dK kvs) → Rpk K G kvs ds → Rp K G (.ref a) (.dict ds)
inductive Rps (K : PySem.W.Frag) (G : Hp) : List V → List D → Prop
  | nil : Rps K G [] []
  | cons {v : V} {vs : List V} {d : D} {ds : List D} : Rp K G v d → Rps K G vs ds → Rps K G (v :: vs) (d :: ds)
inductive Rpk (K : PySem.W.Frag) (G : Hp) : List (Key × V) → List (D × D) → Prop
  | nil : Rpk K G [] []
  | cons {k : Key} {v : V} {r : List (Key × V)} {d : D} {ds : List (D × D)} : Rp K G v d → Rpk K G r ds → Rpk K G ((k, v) :: r) ((keyD k, d) :: ds)
end

theorem Same.seqT {K : PySem.W.Frag} {H H' : Hp} {a : Addr} {xs : List V} (e : Same H H') (h : SqT K H a xs) : SqT K H' a xs := by
  rcases h with (h | ⟨o, h⟩) | h
  · exact .inl (.inl (e _ _ h))
  · exact .inl (.inr ⟨o, e _ _ h⟩)
  · exact .inr h

mutual
theorem Rp.mono {K : PySem.W.Frag} {G G' : Hp} (s : Same G G') : ∀ {v : V} {d : D}, Rp K G v d → Rp K G' v d
  | _, _, .non => .non
  | _, _, .bl b => .bl b
  | _, _, .int i => .int i
  | _, _, .str x => .str x
  | _, _, .lst h r => .lst (s _ _ h) (Rps.mono s r)
  | _, _, .tup h r => .tup (Same.seqT s h) (Rps.mono s r)
  | _, _, .dct h r => .dct (s _ _ h) (Rpk.mono s r)
theorem Rps.mono {K : PySem.W.Frag} {G G' : Hp} (s : Same G G') : ∀ {v : List V} {d : List D}, Rps K G v d → Rps K G' v d
  | _, _, .nil => .nil
  | _, _, .cons h r => .cons (Rp.mono s h) (Rps.mono s r)
theorem Rpk.mono {K : PySem.W.Frag} {G G' : Hp} (s : Same G G') : ∀ {v : List (Key × V)} {d : List (D × D)}, Rpk K G v d → Rpk K G' v d
  | _, _, .nil => .nil
  | _, _, .cons h r => .cons (Rp.mono s h) (Rpk.mono s r)
end

section
variable {K : PySem.W.Frag} {G : Hp}
theorem Rps.length : ∀ {vs : List V} {ds : List D}, Rps K G vs ds → vs.length = ds.length
  | _, _, .nil => rfl
  | _, _, .cons _ r => by simp [Rps.length r]
theorem Rps.get : ∀ {vs : List V} {ds : List D} {i : Nat} {d : D}, Rps K G vs ds → ds[i]? = some d → ∃ v, vs[i]? = some v ∧ Rp K G v d
  | _, _, _, _, .nil, e => by simp at e
  | _, _, 0, _, .cons h _, e => by simp at e; subst e; exact ⟨_, rfl, h⟩
  | _, _, i + 1, d, .cons _ r, e => by
    obtain ⟨v, h1, h2⟩ := Rps.get (i := i) (d := d) r (by simpa using e)
    exact ⟨v, by simpa using h1, h2⟩
theorem Rps.append : ∀ {xs ys : List V} {us ws : List D}, Rps K G xs us → Rps K G ys ws → Rps K G (xs ++ ys) (us ++ ws)
  | _, _, _, _, .nil, s => s
  | _, _, _, _, .cons r t, s => .cons r (Rps.append t s)
theorem Rps.take : ∀ {xs : List V} {us : List D} (n : Nat), Rps K G xs us → Rps K G (xs.take n) (us.take n)
  | _, _, 0, _ => .nil
  | _, _, _ + 1, .nil => .nil
  | _, _, n + 1, .cons r t => .cons r (Rps.take n t)
theorem Rps.drop : ∀ {xs : List V} {us : List D} (n : Nat), Rps K G xs us → Rps K G (xs.drop n) (us.drop n)
  | _, _, 0, r => r
  | _, _, _ + 1, .nil => .nil
  | _, _, n + 1, .cons _ t => Rps.drop n t
theorem Rps.reverse : ∀ {xs : List V} {us : List D}, Rps K G xs us → Rps K G xs.reverse us.reverse
  | _, _, .nil => .nil
  | _, _, .cons r t => by simp only [List.reverse_cons]; exact (Rps.reverse t).append (.cons r .nil)
theorem Rps.rep {xs : List V} {us : List D} (r : Rps K G xs us) : ∀ n : Nat, Rps K G (List.replicate n xs).flatten (List.replicate n us).flatten
  | 0 => .nil
  | n + 1 => by
    rw [List.replicate_succ, List.replicate_succ, List.flatten_cons, List.flatten_cons]
    exact r.append (r.rep n)
theorem Rps.one {v : V} {d : D} (h : Rp K G v d) : Rps K G [v] [d] := .cons h .nil
theorem Rps.set {v : V} {d : D} (h : Rp K G v d) : ∀ {xs : List V} {us : List D} (i : Nat), Rps K G xs us → Rps K G (xs.set i v) (us.set i d)
  | _, _, _, .nil => .nil
  | _, _, 0, .cons _ t => .cons h t
  | _, _, i + 1, .cons r t => .cons r (Rps.set h i t)
theorem Rps.ints : ∀ {vs : List V} {ns : List Int}, Rps K G vs (ns.map PyData.int) → vs = ns.map V.int
  | [], [], _ => rfl
  | _, _ :: _, .cons (.int i) r => by simp only [List.map_cons]; rw [Rps.ints r]
  | _ :: _, [], h => nomatch h
theorem Rps.of_ints : ∀ (ns : List Int), Rps K G (ns.map V.int) (ns.map PyData.int)
  | [] => .nil
  | _ :: r => .cons (.int _) (Rps.of_ints r)
theorem Rps.bls : ∀ {vs : List V} {ns : List Bool}, Rps K G vs (ns.map PyData.bool) → vs = ns.map V.bl
  | [], [], _ => rfl
  | _, _ :: _, .cons (.bl i) r => by simp only [List.map_cons]; rw [Rps.bls r]
  | _ :: _, [], h => nomatch h
theorem Rps.strs : ∀ {vs : List V} {ns : List Str}, Rps K G vs (ns.map PyData.str) → vs = ns.map V.str
  | [], [], _ => rfl
  | _, _ :: _, .cons (.str i) r => by simp only [List.map_cons]; rw [Rps.strs r]
  | _ :: _, [], h => nomatch h
theorem Rps.of_strs : ∀ (ns : List Str), Rps K G (ns.map V.str) (ns.map PyData.str)
  | [] => .nil
  | _ :: r => .cons (.str _) (Rps.of_strs r)
end

/-! ### trees -/
inductive T where
  | p (d : D)
  | sc (ns : List Int)
  | ml (ts : List T)
  | tp (ts : List T)
  | md (kvs : List (Key × D))
  | ob (C : Addr) (fs : List (Str × T))

inductive KR (K : PySem.W.Frag) (G : Hp) : List (Key × V) → List (Key × D) → Prop
  | nil : KR K G [] []
  | cons {k : Key} {v : V} {r : List (Key × V)} {d : D} {ds : List (Key × D)} : Rp K G v d → KR K G r ds → KR K G ((k, v) :: r) ((k, d) :: ds)
theorem KR.mono {K : PySem.W.Frag} {G G' : Hp} (s : Same G G') : ∀ {v : List (Key × V)} {d : List (Key × D)}, KR K G v d → KR K G' v d
  | _, _, .nil => .nil
  | _, _, .cons h r => .cons (Rp.mono s h) (KR.mono s r)
theorem KR.rpk {K : PySem.W.Frag} {G : Hp} : ∀ {v : List (Key × V)} {d : List (Key × D)}, KR K G v d → Rpk K G v (d.map fun p => (keyD p.1, p.2))
  | _, _, .nil => .nil
  | _, _, .cons h r => .cons h (KR.rpk r)

mutual
inductive TR (K : PySem.W.Frag) (G H : Hp) : T → V → List Addr → Prop
  | p {d : D} {v : V} : Rp K G v d → TR K G H (.p d) v []
  | sc {ns : List Int} {a : Addr} : SqL K G a (ns.map V.int) → TR K G H (.sc ns) (.ref a) []
  | ml {ts : List T} {a : Addr} {vs : List V} {F : List Addr} : H a = some (.lst vs) → TRs K G H ts vs F → TR K G H (.ml ts) (.ref a) (a :: F)
  | tp {ts : List T} {a : Addr} {vs : List V} {F : List Addr} : H a = some (.tup vs) → TRs K G H ts vs F → TR K G H (.tp ts) (.ref a) (a :: F)
  | md {ds : List (Key × D)} {a : Addr} {kvs : List (Key × V)} : H a = some (.dK kvs) → KR K G kvs ds → TR K G H (.md ds) (.ref a) [a]
  | ob {C : Addr} {fs : List (Str × T)} {a dx : Addr} {vfs : List (Str × V)} {F : List Addr} : H a = some (.ins C dx vfs) → H dx = some (.own a) → TRf K G H fs vfs F → TR K G H (.ob C fs) (.ref a) (a :: dx :: F)
inductive TRs (K : PySem.W.Frag) (G H : Hp) : List T → List V → List Addr → Prop
  | nil : TRs K G H [] [] []
  | cons {t : T} {v : V} {F F' : List Addr} {ts : List T} {vs : List V} : TR K G H t v F → TRs K G H ts vs F' → TRs K G H (t :: ts) (v :: vs) (F ++ F')
inductive TRf (K : PySem.W.Frag) (G H : Hp) : List (Str × T) → List (Str × V) → List Addr → Prop
  | nil : TRf K G H [] [] []
  | cons {x : Str} {t : T} {v : V} {F F' : List Addr} {ts : List (Str × T)} {vs : List (Str × V)} : TR K G H t v F → TRf K G H ts vs F' → TRf K G H ((x, t) :: ts) ((x, v) :: vs) (F ++ F')
end

/-- the objects at F stand -/
def Keep (F : List Addr) (H H' : Hp) : Prop := ∀ a ∈ F, ∀ o, H a = some o → H' a = some o
theorem Keep.of {F : List Addr} {H H' : Hp} (s : Same H H') : Keep F H H' := fun a _ o e => s a o e
theorem Keep.sub {F F' : List Addr} {H H' : Hp} (k : Keep F H H') (h : ∀ a ∈ F', a ∈ F) : Keep F' H H' := fun a ha o e => k a (h a ha) o e

mutual
theorem TR.keep {K : PySem.W.Frag} {G G' H H' : Hp} (s : Same G G') : ∀ {t : T} {v : V} {F : List Addr}, TR K G H t v F → Keep F H H' → TR K G' H' t v F
  | _, _, _, .p h, _ => .p (h.mono s)
  | _, _, _, .sc h, _ => .sc (s.seq h)
  | _, _, _, .ml h r, k => .ml (k _ List.mem_cons_self _ h) (TRs.keep s r (k.sub fun _ q => List.mem_cons_of_mem _ q))
  | _, _, _, .tp h r, k => .tp (k _ List.mem_cons_self _ h) (TRs.keep s r (k.sub fun _ q => List.mem_cons_of_mem _ q))
  | _, _, _, .md h r, k => .md (k _ List.mem_cons_self _ h) (r.mono s)
  | _, _, _, .ob h h2 r, k => .ob (k _ List.mem_cons_self _ h) (k _ (List.mem_cons_of_mem _ List.mem_cons_self) _ h2) (TRf.keep s r (k.sub fun _ q => List.mem_cons_of_mem _ (List.mem_cons_of_mem _ q)))
theorem TRs.keep {K : PySem.W.Frag} {G G' H H' : Hp} (s : Same G G') : ∀ {t : List T} {v : List V} {F : List Addr}, TRs K G H t v F → Keep F H H' → TRs K G' H' t v F
  | _, _, _, .nil, _ => .nil
  | _, _, _, .cons h r, k => .cons (TR.keep s h (k.sub fun _ q => List.mem_append_left _ q)) (TRs.keep s r (k.sub fun _ q => List.mem_append_right _ q))
theorem TRf.keep {K : PySem.W.Frag} {G G' H H' : Hp} (s : Same G G') : ∀ {t : List (Str × T)} {v : List (Str × V)} {F : List Addr}, TRf K G H t v F → Keep F H H' → TRf K G' H' t v F
  | _, _, _, .nil, _ => .nil
  | _, _, _, .cons h r, k => .cons (TR.keep s h (k.sub fun _ q => List.mem_append_left _ q)) (TRf.keep s r (k.sub fun _ q => List.mem_append_right _ q))
end

mutual
/-- a tree as data -/
def T.snap : T → Option D
  | .p d => some d
  | .sc _ => none
  | .ml ts => (snaps ts).map PyData.list
  | .tp ts => (snaps ts).map PyData.tuple
  | .md kvs => some (.dict (kvs.map fun p => (keyD p.1, p.2)))
  | .ob _ _ => none
def snaps : List T → Option (List D)
  | [] => some []
  | t :: r => (T.snap t).bind fun d => (snaps r).map fun ds => d :: ds
end
theorem snaps_p : ∀ ds : List D, snaps (ds.map T.p) = some ds
  | [] => by simp [snaps]
  | d :: r => by simp [snaps, T.snap, snaps_p r]

mutual
/-- a tree read as data over a heap that has what it leans on -/
theorem TR.data {K : PySem.W.Frag} {G H G' : Hp} (s : Same G G') : ∀ {t : T} {v : V} {F : List Addr} {d : D}, TR K G H t v F → Keep F H G' → t.snap = some d → Rp K G' v d
  | _, _, _, _, .p h, _, e => by
    simp only [T.snap, Option.some.injEq] at e; subst e; exact h.mono s
  | _, _, _, _, .sc _, _, e => by simp [T.snap] at e
  | _, _, _, _, .ml (ts := ts) h r, k, e => by
    simp only [T.snap, Option.map_eq_some_iff] at e
    obtain ⟨ds, e1, rfl⟩ := e
    exact .lst (k _ List.mem_cons_self _ h) (TRs.data s r (k.sub fun _ q => List.mem_cons_of_mem _ q) e1)
  | _, _, _, _, .tp (ts := ts) h r, k, e => by
    simp only [T.snap, Option.map_eq_some_iff] at e
    obtain ⟨ds, e1, rfl⟩ := e
    exact .tup (.inl (.inl (k _ List.mem_cons_self _ h))) (TRs.data s r (k.sub fun _ q => List.mem_cons_of_mem _ q) e1)
  | _, _, _, _, .md h r, k, e => by
    simp only [T.snap, Option.some.injEq] at e; subst e
    exact .dct (k _ List.mem_cons_self _ h) (r.mono s).rpk
  | _, _, _, _, .ob _ _ _, _, e => by simp [T.snap] at e
theorem TRs.data {K : PySem.W.Frag} {G H G' : Hp} (s : Same G G') : ∀ {t : List T} {v : List V} {F : List Addr} {d : List D}, TRs K G H t v F → Keep F H G' → snaps t = some d → Rps K G' v d
  | _, _, _, _, .nil, _, e => by simp [snaps] at e; subst e; exact .nil
  | _, _, _, _, .cons h r, k, e => by
    simp only [snaps, Option.bind_eq_some_iff, Option.map_eq_some_iff] at e
    obtain ⟨d, e1, ds, e2, rfl⟩ := e
    exact .cons (TR.data s h (k.sub fun _ q => List.mem_append_left _ q) e1) (TRs.data s r (k.sub fun _ q => List.mem_append_right _ q) e2)
end
/-- .. as it stands now -/
theorem TR.live {K : PySem.W.Frag} {G H : Hp} {t : T} {v : V} {F : List Addr} {d : D} (r : TR K G H t v F) (s : Same G H) (e : t.snap = some d) : Rp K H v d := r.data s (Keep.of (Same.refl H)) e

theorem TR.pure {K : PySem.W.Frag} {G H : Hp} {d : D} {v : V} {F : List Addr} (r : TR K G H (.p d) v F) : Rp K G v d := by
  cases r with
  | p h => exact h
theorem TR.pnil {K : PySem.W.Frag} {G H : Hp} {d : D} {v : V} {F : List Addr} (r : TR K G H (.p d) v F) : F = [] := by
  cases r with
  | p h => rfl
theorem TRs.pures {K : PySem.W.Frag} {G H : Hp} : ∀ {ds : List D} {vs : List V} {F : List Addr}, TRs K G H (ds.map T.p) vs F → Rps K G vs ds ∧ F = []
  | [], _, _, .nil => ⟨.nil, rfl⟩
  | _ :: r, _, _, .cons h t => by
    obtain ⟨h1, h2⟩ := TRs.pures (ds := r) t
    cases h with
    | p h => exact ⟨.cons h h1, by rw [h2]; rfl⟩
theorem TRs.of_pures {K : PySem.W.Frag} {G H : Hp} : ∀ {ds : List D} {vs : List V}, Rps K G vs ds → TRs K G H (ds.map T.p) vs []
  | _, _, .nil => .nil
  | _, _, .cons h r => by
    have q := TRs.cons (TR.p (H := H) h) (TRs.of_pures (H := H) r)
    exact q

/-! ### the slots -/
abbrev En := List (Option T)
inductive ES (K : PySem.W.Frag) (G H : Hp) : En → L2.St → List Addr → Prop
  | nil : ES K G H [] [] []
  | no {env : En} {σ : L2.St} {F : List Addr} {o : Option V} : ES K G H env σ F → ES K G H (none :: env) (o :: σ) F
  | so {env : En} {σ : L2.St} {F F' : List Addr} {t : T} {v : V} : TR K G H t v F → ES K G H env σ F' → ES K G H (some t :: env) (some v :: σ) (F ++ F')

section
variable {K : PySem.W.Frag} {G G' H H' : Hp}
theorem ES.keep (s : Same G G') : ∀ {env : En} {σ : L2.St} {F : List Addr}, ES K G H env σ F → Keep F H H' → ES K G' H' env σ F
  | _, _, _, .nil, _ => .nil
  | _, _, _, .no r, k => .no (ES.keep s r k)
  | _, _, _, .so h r, k => .so (h.keep s (k.sub fun _ q => List.mem_append_left _ q)) (ES.keep s r (k.sub fun _ q => List.mem_append_right _ q))
/-- slot i and the rest -/
theorem ES.split : ∀ {env : En} {σ : L2.St} {F : List Addr} {i : Nat} {t : T}, ES K G H env σ F → env[i]? = some (some t) →
    ∃ v F1 Fa Fb, σ[i]? = some (some v) ∧ TR K G H t v F1 ∧ F = Fa ++ (F1 ++ Fb) ∧
      (∀ G' H' t' v' F1', Same G G' → Keep (Fa ++ Fb) H H' → TR K G' H' t' v' F1' → ES K G' H' (env.set i (some t')) (σ.set i (some v')) (Fa ++ (F1' ++ Fb))) ∧
      (∀ G' H' t' F1', Same G G' → Keep (Fa ++ Fb) H H' → TR K G' H' t' v F1' → ES K G' H' (env.set i (some t')) σ (Fa ++ (F1' ++ Fb))) ∧
      (∀ G' H', Same G G' → Keep (Fa ++ Fb) H H' → ES K G' H' (env.set i none) σ (Fa ++ Fb))
  | _, _, _, 0, t, .so (F := F1) (F' := F2) h r, e => by
    simp only [List.getElem?_cons_zero, Option.some.injEq] at e
    subst e
    refine ⟨_, F1, [], F2, rfl, h, rfl, fun G' H' t' v' F1' s k q => ?_, fun G' H' t' F1' s k q => ?_, fun G' H' s k => ?_⟩
    · rw [List.nil_append]; exact .so q (r.keep s k)
    · rw [List.nil_append]; exact .so q (r.keep s k)
    · exact .no (r.keep s k)
  | _, _, _, 0, t, .no r, e => by simp at e
  | _, _, _, i + 1, t, .no r, e => by
    obtain ⟨v, F1, Fa, Fb, h1, h2, h3, h4, h5, h6⟩ := ES.split (i := i) (t := t) r (by simpa using e)
    exact ⟨v, F1, Fa, Fb, by simpa using h1, h2, h3, fun G' H' t' v' F1' s k q => .no (h4 G' H' t' v' F1' s k q), fun G' H' t' F1' s k q => .no (h5 G' H' t' F1' s k q), fun G' H' s k => .no (h6 G' H' s k)⟩
  | _, _, _, i + 1, t, .so (F := F0) h r, e => by
    obtain ⟨v, F1, Fa, Fb, h1, h2, h3, h4, h5, h6⟩ := ES.split (i := i) (t := t) r (by simpa using e)
    have kA : ∀ {H' : Hp}, Keep (F0 ++ Fa ++ Fb) H H' → Keep F0 H H' ∧ Keep (Fa ++ Fb) H H' := fun k =>
      ⟨k.sub fun _ q => List.mem_append_left _ (List.mem_append_left _ q), k.sub fun _ q => by rw [List.append_assoc]; exact List.mem_append_right _ q⟩
    refine ⟨v, F1, F0 ++ Fa, Fb, by simpa using h1, h2, by rw [h3, List.append_assoc], fun G' H' t' v' F1' s k q => ?_, fun G' H' t' F1' s k q => ?_, fun G' H' s k => ?_⟩
    · rw [List.append_assoc]
      exact .so (h.keep s (kA k).1) (h4 G' H' t' v' F1' s (kA k).2 q)
    · rw [List.append_assoc]
      exact .so (h.keep s (kA k).1) (h5 G' H' t' F1' s (kA k).2 q)
    · rw [List.append_assoc]
      exact .so (h.keep s (kA k).1) (h6 G' H' s (kA k).2)
/-- a slot is given a new tree: the old one is forgotten -/
theorem ES.put {t : T} {v : V} {F1 : List Addr} (q : TR K G H t v F1) : ∀ {env : En} {σ : L2.St} {F : List Addr} (i : Nat), ES K G H env σ F →
    ∃ F', ES K G H (env.set i (some t)) (σ.set i (some v)) F' ∧ ((∀ a ∈ F', a ∈ F1 ∨ a ∈ F)) ∧ (F.Nodup → F1.Nodup → (∀ a ∈ F1, a ∉ F) → F'.Nodup)
  | _, _, _, _, .nil => ⟨[], .nil, fun _ z => .inr z, fun h _ _ => h⟩
  | _, _, _, 0, .no r => ⟨_, .so q r, fun a h => List.mem_append.mp h, fun h1 h2 h3 => List.nodup_append.mpr ⟨h2, h1, fun a ha b hb e => h3 a ha (e ▸ hb)⟩⟩
  | _, _, _, 0, .so h r => ⟨_, .so q r, fun a h => (List.mem_append.mp h).imp_right fun z => List.mem_append_right _ z, fun h1 h2 h3 =>
      List.nodup_append.mpr ⟨h2, (List.nodup_append.mp h1).2.1, fun a ha b hb e => h3 a ha (e ▸ List.mem_append_right _ hb)⟩⟩
  | _, _, _, i + 1, .no r => by
    obtain ⟨F', h1, h2, h3⟩ := ES.put q i r
    exact ⟨F', .no h1, h2, h3⟩
  | _, _, _, i + 1, .so (F := F0) (F' := Fr) h r => by
    obtain ⟨F', h1, h2, h3⟩ := ES.put q i r
    refine ⟨F0 ++ F', .so h h1, fun a ha => ?_, fun n1 n2 n3 => ?_⟩
    · rcases List.mem_append.mp ha with z | z
      · exact .inr (List.mem_append_left _ z)
      · exact (h2 a z).imp_right fun z => List.mem_append_right _ z
    · obtain ⟨m1, m2, m3⟩ := List.nodup_append.mp n1
      refine List.nodup_append.mpr ⟨m1, h3 m2 n2 fun a ha z => n3 a ha (List.mem_append_right _ z), fun a ha b hb e => ?_⟩
      subst e
      rcases h2 a hb with z | z
      · exact n3 a z (List.mem_append_left _ ha)
      · exact m3 a ha a z rfl
theorem ES.length : ∀ {env : En} {σ : L2.St} {F : List Addr}, ES K G H env σ F → env.length = σ.length
  | _, _, _, .nil => rfl
  | _, _, _, .no r => by simp [ES.length r]
  | _, _, _, .so _ r => by simp [ES.length r]
/-- a slot forgotten (its value or not) -/
theorem ES.drop : ∀ {env : En} {σ : L2.St} {F : List Addr} (i : Nat) (o : Option V), ES K G H env σ F → ∃ F', ES K G H (env.set i none) (σ.set i o) F' ∧ F'.Sublist F
  | _, _, _, _, _, .nil => ⟨[], .nil, .slnil⟩
  | _, _, _, 0, _, .no r => ⟨_, .no r, List.Sublist.refl _⟩
  | _, _, _, 0, _, .so h r => ⟨_, .no r, List.sublist_append_right _ _⟩
  | _, _, _, i + 1, o, .no r => by
    obtain ⟨F', h1, h2⟩ := ES.drop i o r
    exact ⟨F', .no h1, h2⟩
  | _, _, _, i + 1, o, .so h r => by
    obtain ⟨F', h1, h2⟩ := ES.drop i o r
    exact ⟨_, .so h h1, List.Sublist.append (List.Sublist.refl _) h2⟩
end

/-! ### what an evaluation keeps -/
structure Ext (G H G' H' : Hp) : Prop where
  gg : Same G G'
  hh : Same H H'
  gh : Same G' H'
  fr : ∀ a, G' a ≠ none → G a ≠ none ∨ H a = none
theorem Ext.refl {G H : Hp} (s : Same G H) : Ext G H G H := ⟨Same.refl G, Same.refl H, s, fun _ h => .inl h⟩
theorem Ext.trans {G H G1 H1 G2 H2 : Hp} (a : Ext G H G1 H1) (b : Ext G1 H1 G2 H2) : Ext G H G2 H2 :=
  ⟨a.gg.trans b.gg, a.hh.trans b.hh, b.gh, fun x h => by
    rcases b.fr x h with z | z
    · exact a.fr x z
    · exact .inr (a.hh.free z)⟩
structure Rel (K : PySem.W.Frag) (G H : Hp) (env : En) (σ : L2.St) (F : List Addr) : Prop where
  es : ES K G H env σ F
  nd : F.Nodup
  fr : ∀ a ∈ F, G a = none ∧ H a ≠ none
  sm : Same G H
theorem Rel.ext {K : PySem.W.Frag} {G H G' H' : Hp} {env : En} {σ : L2.St} {F : List Addr} (r : Rel K G H env σ F) (e : Ext G H G' H') : Rel K G' H' env σ F :=
  ⟨r.es.keep e.gg (Keep.of e.hh), r.nd, fun a ha => by
    obtain ⟨h1, h2⟩ := r.fr a ha
    refine ⟨?_, ?_⟩
    · cases q : G' a with
      | none => rfl
      | some o =>
        rcases e.fr a (by rw [q]; exact Option.some_ne_none o) with z | z
        · exact absurd h1 z
        · exact absurd z h2
    · cases q : H a with
      | none => exact absurd q h2
      | some o => rw [e.hh a o q]; exact Option.some_ne_none o, e.gh⟩

/-- a new object that is frozen at once -/
theorem same_upd {H : Hp} {p : Addr} {o : HO} (h : H p = none) : Same H (upd H p o) := fun b x e => by
  rw [upd_ne (ne_of_none e h)]; exact e
theorem same_upd2 {G H : Hp} {p : Addr} {o : HO} (s : Same G H) : Same (upd G p o) (upd H p o) := fun b x e => by
  by_cases q : b = p
  · subst q; rw [upd_same] at e ⊢; exact e
  · rw [upd_ne q] at e ⊢; exact s b x e
theorem Ext.new {G H : Hp} {p : Addr} {o : HO} (s : Same G H) (h : H p = none) : Ext G H (upd G p o) (upd H p o) :=
  ⟨same_upd (s.free h), same_upd h, same_upd2 s, fun a q => by
    by_cases e : a = p
    · subst e; exact .inr h
    · rw [upd_ne e] at q; exact .inl q⟩
/-- a new object that is not frozen -/
theorem Ext.fresh {G H : Hp} {p : Addr} {o : HO} (s : Same G H) (h : H p = none) : Ext G H G (upd H p o) :=
  ⟨Same.refl G, same_upd h, s.trans (same_upd h), fun _ q => .inl q⟩
end M
/-! M2: expressions. -/
namespace M
open PySem PySem.Spec PyProof.Rows L2

abbrev EM := En → Option T
def LIM : Nat := 1000000
theorem LIM_line : LIM ≤ sizeLine := by rw [sizeLine_eq]; decide
theorem PE_imp {X : Cx} {e : Expr} {t t' : TE} (h : PE X e t) (i : ∀ σ H Q, t' σ H Q → t σ H Q) : PE X e t' := ⟨fun pins s σ H Q I q => h.run pins s σ H Q I (i σ H Q q)⟩
theorem PT_imp {X : Cx} {e : Expr} {t t' : TT} (h : PT X e t) (i : ∀ σ H Q, t' σ H Q → t σ H Q) : PT X e t' := ⟨fun pins s σ H Q I q => h.run pins s σ H Q I (i σ H Q q)⟩
theorem PW_imp {X : Cx} {e : Expr} {t t' : TT} (h : PW X e t) (i : ∀ σ H Q, t' σ H Q → t σ H Q) : PW X e t' := ⟨fun wh pins s σ H Q I q => h.run wh pins s σ H Q I (i σ H Q q)⟩
theorem PA_imp {X : Cx} {e : List Expr} {t t' : TA} (h : PA X e t) (i : ∀ σ H Q, t' σ H Q → t σ H Q) : PA X e t' := ⟨fun pos pins s σ H Q I q => h.run pos pins s σ H Q I (i σ H Q q)⟩

def tM (K : PySem.W.Frag) (m : EM) : TE := fun σ H Q => ∃ G env F, Rel K G H env σ F ∧ ∃ t, m env = some t ∧ ∀ v H' G' F', Ext G H G' H' → TR K G' H' t v F' → Q v H'
abbrev PM (X : Cx) (e : Expr) (m : EM) : Prop := PE X e (tM X.K m)
def tTM (K : PySem.W.Frag) (m : En → Option Bool) : TT := fun σ H Q => ∃ G env F, Rel K G H env σ F ∧ ∃ b, m env = some b ∧ ∀ H' G', Ext G H G' H' → Q b H'
abbrev PTM (X : Cx) (e : Expr) (m : En → Option Bool) : Prop := PT X e (tTM X.K m)
abbrev PWM (X : Cx) (e : Expr) (m : En → Option Bool) : Prop := PW X e (tTM X.K m)
inductive Args (K : PySem.W.Frag) (G H : Hp) : List T → List V → Prop
  | nil : Args K G H [] []
  | cons {t : T} {v : V} {F : List Addr} {ts : List T} {vs : List V} : TR K G H t v F → Args K G H ts vs → Args K G H (t :: ts) (v :: vs)
theorem Args.ext {K : PySem.W.Frag} {G H G' H' : Hp} (e : Ext G H G' H') : ∀ {ts : List T} {vs : List V}, Args K G H ts vs → Args K G' H' ts vs
  | _, _, .nil => .nil
  | _, _, .cons h r => .cons (h.keep e.gg (Keep.of e.hh)) (r.ext e)
theorem Args.length {K : PySem.W.Frag} {G H : Hp} : ∀ {ts : List T} {vs : List V}, Args K G H ts vs → ts.length = vs.length
  | _, _, .nil => rfl
  | _, _, .cons h r => by simp [r.length]
theorem Args.get {K : PySem.W.Frag} {G H : Hp} : ∀ {ts : List T} {vs : List V} {i : Nat} {t : T}, Args K G H ts vs → ts[i]? = some t → ∃ v F, vs[i]? = some v ∧ TR K G H t v F
  | _, _, _, _, .nil, e => by simp at e
  | _, _, 0, _, .cons h _, e => by simp at e; subst e; exact ⟨_, _, rfl, h⟩
  | _, _, i + 1, t, .cons _ r, e => by
    obtain ⟨v, F, h1, h2⟩ := Args.get (i := i) (t := t) r (by simpa using e)
    exact ⟨v, F, by simpa using h1, h2⟩
theorem TRs.args {K : PySem.W.Frag} {G H : Hp} : ∀ {ts : List T} {vs : List V} {F : List Addr}, TRs K G H ts vs F → Args K G H ts vs
  | _, _, _, .nil => .nil
  | _, _, _, .cons h r => .cons h (TRs.args r)
theorem Rps.args {K : PySem.W.Frag} {G H : Hp} : ∀ {ds : List D} {vs : List V}, Rps K G vs ds → Args K G H (ds.map T.p) vs
  | _, _, .nil => .nil
  | _, _, .cons h r => .cons (.p h) (Rps.args r)
def tAM (K : PySem.W.Frag) (m : En → Option (List T)) : TA := fun σ H Q => ∃ G env F, Rel K G H env σ F ∧ ∃ ts, m env = some ts ∧ ∀ vs H' G', Ext G H G' H' → Args K G' H' ts vs → Q vs H'
abbrev PAM (X : Cx) (es : List Expr) (m : En → Option (List T)) : Prop := PA X es (tAM X.K m)

/-! ### what operators, calls mean on trees -/
def R2M (K : PySem.W.Frag) (r : R2) (f : T → T → Option T) : Prop := ∀ (G H : Hp) (t1 t2 t : T) (x y : V) (F1 F2 : List Addr), f t1 t2 = some t → Same G H → TR K G H t1 x F1 → TR K G H t2 y F2 →
  ∀ Q : VK, (∀ v H' G' F', Ext G H G' H' → TR K G' H' t v F' → Q v H') → r x y H Q
def CM (K : PySem.W.Frag) (r : List V → Hp → VK → Prop) (f : List T → Option T) : Prop := ∀ (G H : Hp) (ts : List T) (t : T) (xs : List V), f ts = some t → Same G H → Args K G H ts xs →
  ∀ Q : VK, (∀ v H' G' F', Ext G H G' H' → TR K G' H' t v F' → Q v H') → r xs H Q

/-! ### mirrors -/
def mVar (i : Nat) : EM := fun env => (env[i]?).join
def mC (d : D) : EM := fun _ => some (.p d)
def mOp (f : T → T → Option T) (a b : EM) : EM := fun env => (a env).bind fun x => (b env).bind fun y => f x y
def mCall (f : List T → Option T) (as : En → Option (List T)) : EM := fun env => (as env).bind f
def aNil : En → Option (List T) := fun _ => some []
def aCons (a : EM) (as : En → Option (List T)) : En → Option (List T) := fun env => (a env).bind fun x => (as env).map fun xs => x :: xs
def T.bool? : T → Option Bool
  | .p (.bool b) => some b
  | _ => none
def bVal (m : EM) : En → Option Bool := fun env => (m env).bind T.bool?
def bOp (f : T → T → Option T) (a b : EM) : En → Option Bool := bVal (mOp f a b)
def bAnd (a b : En → Option Bool) : En → Option Bool := fun env => (a env).bind fun x => if x then b env else some false
def bOr (a b : En → Option Bool) : En → Option Bool := fun env => (a env).bind fun x => if x then some true else b env
def bNot (a : En → Option Bool) : En → Option Bool := fun env => (a env).map fun x => !x
def mB (a : En → Option Bool) : EM := fun env => (a env).map fun b => .p (.bool b)
def mAnd (a b : EM) : EM := fun env => (a env).bind fun x => x.bool?.bind fun c => if c then b env else some (.p (.bool false))
def mOr (a b : EM) : EM := fun env => (a env).bind fun x => x.bool?.bind fun c => if c then some (.p (.bool true)) else b env
def mNot (a : EM) : EM := fun env => (a env).bind fun x => x.bool?.map fun c => .p (.bool !c)
def mIf (c : En → Option Bool) (a b : EM) : EM := fun env => (c env).bind fun x => if x then a env else b env
def mChain (f g : T → T → Option T) (a b c : EM) : EM := fun env => (a env).bind fun x => (b env).bind fun y => (f x y).bind fun z => z.bool?.bind fun k => if k then (c env).bind fun u => g y u else some (.p (.bool false))

theorem TR.bool {K : PySem.W.Frag} {G H : Hp} {t : T} {v : V} {F : List Addr} {b : Bool} (r : TR K G H t v F) (e : t.bool? = some b) : v = .bl b ∧ t = .p (.bool b) := by
  cases r with
  | p h =>
    cases h with
    | bl c => simp [T.bool?] at e; subst e; exact ⟨rfl, rfl⟩
    | _ => simp [T.bool?] at e
  | _ => simp [T.bool?] at e

section
variable {X : Cx}
theorem pm_var (i : Nat) {x : Str} {pos : Pos} (hN : X.N[i]? = some x := by rfl) (hv : Vis X.env.scope x := by first | exact Or.inl rfl | exact Or.inr (Or.inl rfl) | exact Or.inr (Or.inr rfl)) (hd : (x == ("__debug__" : Str)) = false := by decide)
    (hcd : (x == ("__classdict__" : Str)) = false := by decide) : PM X (.Name x pos) (mVar i) := by
  refine PE_imp (pe_var hN hv hd hcd) fun σ H Q h => ?_
  obtain ⟨G, env, F, rel, t, e, q⟩ := h
  have e' : env[i]? = some (some t) := by
    unfold mVar at e
    cases z : env[i]? with
    | none => rw [z] at e; cases e
    | some o => rw [z] at e; simp at e; rw [e]
  obtain ⟨v, F1, Fa, Fb, h1, h2, _⟩ := rel.es.split e'
  exact ⟨v, h1, q v H G F1 (Ext.refl rel.sm) h2⟩
theorem pm_c {e : Expr} {v : V} {d : D} (h : PE X e (tC v)) (r : ∀ G, Rp X.K G v d) : PM X e (mC d) := by
  refine PE_imp h fun σ H Q h => ?_
  obtain ⟨G, env, F, rel, t, e, q⟩ := h
  cases e
  exact q v H G [] (Ext.refl rel.sm) (.p (r G))
theorem pm_int {i j pos} : PM X (.Constant (.int i) j pos) (mC (.int i)) := pm_c pe_int fun _ => .int i
theorem pm_bl {b j pos} : PM X (.Constant (.bool b) j pos) (mC (.bool b)) := pm_c pe_bl fun _ => .bl b
theorem pm_non {j pos} : PM X (.Constant .none j pos) (mC .none) := pm_c pe_non fun _ => .non
theorem pm_str {x j pos} : PM X (.Constant (.str x) j pos) (mC (.str x)) := pm_c pe_str fun _ => .str x
theorem pm_globInt {x : Str} {pos : Pos} {i : Int} {t : Tok} (hg : Gl X x) (hm : X.mg x = some (.int i t)) (hd : (x == ("__debug__" : Str)) = false := by decide) : PM X (.Name x pos) (mC (.int i)) := pm_c (v := .int i) (pe_glob hg hm ⟨_, rfl⟩ hd) fun _ => .int i
theorem pm_globStr {x : Str} {pos : Pos} {i : Str} {t : Tok} (hg : Gl X x) (hm : X.mg x = some (.str i t)) (hd : (x == ("__debug__" : Str)) = false := by decide) : PM X (.Name x pos) (mC (.str i)) := pm_c (v := .str i) (pe_glob hg hm ⟨_, rfl⟩ hd) fun _ => .str i

variable {a b c : Expr} {ma mb mc : EM} {pos : Pos}
theorem tOpM {K : PySem.W.Frag} {r : R2} {f : T → T → Option T} (hl : R2M K r f) {σ : L2.St} {H : Hp} {Q : VK} (h : tM K (mOp f ma mb) σ H Q) : tOp r (tM K ma) (tM K mb) σ H Q := by
  obtain ⟨G, env, F, rel, t, e, q⟩ := h
  simp only [mOp, Option.bind_eq_some_iff] at e
  obtain ⟨t1, e1, t2, e2, e3⟩ := e
  refine ⟨G, env, F, rel, t1, e1, fun x H1 G1 F1 x1 r1 => ?_⟩
  refine ⟨G1, env, F, rel.ext x1, t2, e2, fun y H2 G2 F2 x2 r2 => ?_⟩
  exact hl G2 H2 t1 t2 t x y F1 F2 e3 x2.gh (r1.keep x2.gg (Keep.of x2.hh)) r2 Q fun v H' G' F' x3 r3 => q v H' G' F' ((x1.trans x2).trans x3) r3
theorem pm_op {op : Operator} {r : R2} {f : T → T → Option T} (ho : OpR X (binaryOp op) r) (hl : R2M X.K r f) (ha : PM X a ma) (hb : PM X b mb) : PM X (.BinOp a op b pos) (mOp f ma mb) :=
  PE_imp (pe_op ho ha hb) fun _ _ _ h => tOpM hl h
theorem pm_cmp {op : CmpOp} {r : R2} {f : T → T → Option T} (ho : OpR X (compareOp op) r) (hl : R2M X.K r f) (ha : PM X a ma) (hb : PM X b mb) (hm : behindInMarks op b = false) : PM X (.Compare a [op] [b] pos) (mOp f ma mb) :=
  PE_imp (pe_cmpR ho ha hb hm) fun _ _ _ h => tOpM hl h
theorem pm_ix {r : R2} {f : T → T → Option T} (ho : IxR X r) (hl : R2M X.K r f) (ha : PM X a ma) (hb : PM X b mb) (hs : PlainIx b) : PM X (.Subscript a b pos) (mOp f ma mb) :=
  PE_imp (pe_ix ho ha hb hs) fun _ _ _ h => tOpM hl h
theorem tBM {K : PySem.W.Frag} {m : EM} {σ : L2.St} {H : Hp} {Q : Bool → Hp → Prop} (h : tTM K (bVal m) σ H Q) : tM K m σ H fun x H1 => ∃ k, x = .bl k ∧ Q k H1 := by
  obtain ⟨G, env, F, rel, b, e, q⟩ := h
  simp only [bVal, Option.bind_eq_some_iff] at e
  obtain ⟨t, e1, e2⟩ := e
  refine ⟨G, env, F, rel, t, e1, fun v H' G' F' x r => ?_⟩
  obtain ⟨rfl, _⟩ := r.bool e2
  exact ⟨b, rfl, q H' G' x⟩
theorem ptm_cmp {op : CmpOp} {r : R2} {f : T → T → Option T} (ho : OpR X (compareOp op) r) (hl : R2M X.K r f) (ha : PM X a ma) (hb : PM X b mb) (hm : behindInMarks op b = false) : PTM X (.Compare a [op] [b] pos) (bOp f ma mb) := by
  refine PT_imp (pt_cmpR ho ha hb hm) fun σ H Q h => ?_
  exact tOpM hl (Q := fun x H' => ∃ k, x = .bl k ∧ Q k H') (tBM h)
theorem ptm_val {e : Expr} {m : EM} (h : PM X e m) (he : ∀ whole, isTrue e X.env whole = (do let v ← whole; standAt e.pos; holding [v] (truthy v)) := by intro _; rfl) : PTM X e (bVal m) :=
  PT_imp (pt_val h he) fun σ H Q q => tBM q
theorem ptm_not {m : En → Option Bool} (h : PTM X a m) : PTM X (.UnaryOp .Not a pos) (bNot m) := by
  refine PT_imp (pt_not h) fun σ H Q q => ?_
  obtain ⟨G, env, F, rel, b, e, q⟩ := q
  simp only [bNot, Option.map_eq_some_iff] at e
  obtain ⟨x, e1, rfl⟩ := e
  exact ⟨G, env, F, rel, x, e1, fun H' G' x1 => q H' G' x1⟩
variable {rest : List Expr} {m m' : En → Option Bool}
theorem pwm_and1 (h : PTM X a m) : PWM X (.BoolOp .And [a] pos) m := pw_and1 h
theorem pwm_or1 (h : PTM X a m) : PWM X (.BoolOp .Or [a] pos) m := pw_or1 h
theorem pwm_and (h : PTM X a m) (h' : PWM X (.BoolOp .And (b :: rest) pos) m') : PWM X (.BoolOp .And (a :: b :: rest) pos) (bAnd m m') := by
  refine PW_imp (pw_and h h') fun σ H Q q => ?_
  obtain ⟨G, env, F, rel, k, e, q⟩ := q
  simp only [bAnd, Option.bind_eq_some_iff] at e
  obtain ⟨x, e1, e2⟩ := e
  refine ⟨G, env, F, rel, x, e1, fun H' G' x1 => ?_⟩
  cases x with
  | true =>
    rw [if_pos rfl] at e2 ⊢
    exact ⟨G', env, F, rel.ext x1, k, e2, fun H2 G2 x2 => q H2 G2 (x1.trans x2)⟩
  | false =>
    rw [if_neg Bool.false_ne_true] at e2 ⊢
    cases e2
    exact q H' G' x1
theorem pwm_or (h : PTM X a m) (h' : PWM X (.BoolOp .Or (b :: rest) pos) m') : PWM X (.BoolOp .Or (a :: b :: rest) pos) (bOr m m') := by
  refine PW_imp (pw_or h h') fun σ H Q q => ?_
  obtain ⟨G, env, F, rel, k, e, q⟩ := q
  simp only [bOr, Option.bind_eq_some_iff] at e
  obtain ⟨x, e1, e2⟩ := e
  refine ⟨G, env, F, rel, x, e1, fun H' G' x1 => ?_⟩
  cases x with
  | true =>
    rw [if_pos rfl] at e2 ⊢
    cases e2
    exact q H' G' x1
  | false =>
    rw [if_neg Bool.false_ne_true] at e2 ⊢
    exact ⟨G', env, F, rel.ext x1, k, e2, fun H2 G2 x2 => q H2 G2 (x1.trans x2)⟩
theorem ptm_w {e : Expr} (h : PWM X e m) : PTM X e m := h.pt
/-! and, or, not as values -/
theorem pm_one {op : BoolOp} (h : PM X a ma) : PM X (.BoolOp op [a] pos) ma := pe_one h
theorem pm_and (ha : PM X a ma) (hb : PM X (.BoolOp .And (b :: rest) pos) mb) : PM X (.BoolOp .And (a :: b :: rest) pos) (mAnd ma mb) := by
  refine PE_imp (pe_and ha hb) fun σ H Q q => ?_
  obtain ⟨G, env, F, rel, t, e, q⟩ := q
  simp only [mAnd, Option.bind_eq_some_iff] at e
  obtain ⟨x, e1, k, e2, e3⟩ := e
  refine ⟨G, env, F, rel, x, e1, fun v H' G' F' x1 r => ?_⟩
  obtain ⟨rfl, _⟩ := r.bool e2
  refine ⟨k, rfl, ?_⟩
  cases k with
  | true =>
    rw [if_pos rfl] at e3 ⊢
    exact ⟨G', env, F, rel.ext x1, t, e3, fun v H2 G2 F2 x2 r2 => q v H2 G2 F2 (x1.trans x2) r2⟩
  | false =>
    rw [if_neg Bool.false_ne_true] at e3 ⊢
    cases e3
    exact q _ H' G' [] x1 (.p (.bl false))
theorem pm_or (ha : PM X a ma) (hb : PM X (.BoolOp .Or (b :: rest) pos) mb) : PM X (.BoolOp .Or (a :: b :: rest) pos) (mOr ma mb) := by
  refine PE_imp (pe_or ha hb) fun σ H Q q => ?_
  obtain ⟨G, env, F, rel, t, e, q⟩ := q
  simp only [mOr, Option.bind_eq_some_iff] at e
  obtain ⟨x, e1, k, e2, e3⟩ := e
  refine ⟨G, env, F, rel, x, e1, fun v H' G' F' x1 r => ?_⟩
  obtain ⟨rfl, _⟩ := r.bool e2
  refine ⟨k, rfl, ?_⟩
  cases k with
  | false =>
    rw [if_neg Bool.false_ne_true] at e3 ⊢
    exact ⟨G', env, F, rel.ext x1, t, e3, fun v H2 G2 F2 x2 r2 => q v H2 G2 F2 (x1.trans x2) r2⟩
  | true =>
    rw [if_pos rfl] at e3 ⊢
    cases e3
    exact q _ H' G' [] x1 (.p (.bl true))
theorem pm_not (ha : PM X a ma) : PM X (.UnaryOp .Not a pos) (mNot ma) := by
  refine PE_imp (pe_not ha) fun σ H Q q => ?_
  obtain ⟨G, env, F, rel, t, e, q⟩ := q
  simp only [mNot, Option.bind_eq_some_iff, Option.map_eq_some_iff] at e
  obtain ⟨x, e1, k, e2, rfl⟩ := e
  refine ⟨G, env, F, rel, x, e1, fun v H' G' F' x1 r => ?_⟩
  obtain ⟨rfl, _⟩ := r.bool e2
  exact ⟨k, rfl, q _ H' G' [] x1 (.p (.bl _))⟩
theorem pm_ifExp (hc : PTM X c m) (ha : PM X a ma) (hb : PM X b mb) : PM X (.IfExp c a b pos) (mIf m ma mb) := by
  refine PE_imp (pe_ifExp hc ha hb) fun σ H Q q => ?_
  obtain ⟨G, env, F, rel, t, e, q⟩ := q
  simp only [mIf, Option.bind_eq_some_iff] at e
  obtain ⟨x, e1, e2⟩ := e
  refine ⟨G, env, F, rel, x, e1, fun H' G' x1 => ?_⟩
  cases x with
  | true =>
    rw [if_pos rfl] at e2 ⊢
    exact ⟨G', env, F, rel.ext x1, t, e2, fun v H2 G2 F2 x2 r2 => q v H2 G2 F2 (x1.trans x2) r2⟩
  | false =>
    rw [if_neg Bool.false_ne_true] at e2 ⊢
    exact ⟨G', env, F, rel.ext x1, t, e2, fun v H2 G2 F2 x2 r2 => q v H2 G2 F2 (x1.trans x2) r2⟩
theorem tChainM {K : PySem.W.Frag} {r r' : R2} {f g : T → T → Option T} (hl : R2M K r f) (hl' : R2M K r' g) {σ : L2.St} {H : Hp} {Q : VK} (h : tM K (mChain f g ma mb mc) σ H Q) : tChain r r' (tM K ma) (tM K mb) (tM K mc) σ H Q := by
  obtain ⟨G, env, F, rel, t, e, q⟩ := h
  simp only [mChain, Option.bind_eq_some_iff] at e
  obtain ⟨t1, e1, t2, e2, t3, e3, k, e4, e5⟩ := e
  refine ⟨G, env, F, rel, t1, e1, fun x H1 G1 F1 x1 r1 => ?_⟩
  refine ⟨G1, env, F, rel.ext x1, t2, e2, fun y H2 G2 F2 x2 r2 => ?_⟩
  refine hl G2 H2 t1 t2 t3 x y F1 F2 e3 x2.gh (r1.keep x2.gg (Keep.of x2.hh)) r2 _ fun v H3 G3 F3 x3 r3 => ?_
  obtain ⟨rfl, _⟩ := r3.bool e4
  refine ⟨k, rfl, ?_⟩
  cases k with
  | true =>
    rw [if_pos rfl] at e5 ⊢
    simp only [Option.bind_eq_some_iff] at e5
    obtain ⟨t4, e6, e7⟩ := e5
    refine ⟨G3, env, F, ((rel.ext x1).ext x2).ext x3, t4, e6, fun z H4 G4 F4 x4 r4 => ?_⟩
    have x34 := x3.trans x4
    exact hl' G4 H4 t2 t4 t y z F2 F4 e7 x4.gh (r2.keep x34.gg (Keep.of x34.hh)) r4 Q fun v H' G' F' x5 r5 => q v H' G' F' (((x1.trans x2).trans x34).trans x5) r5
  | false =>
    rw [if_neg Bool.false_ne_true] at e5 ⊢
    cases e5
    exact q _ H3 G3 [] ((x1.trans x2).trans x3) (.p (.bl false))
theorem pm_chain {op op' : CmpOp} {r r' : R2} {f g : T → T → Option T} (ho : OpR X (compareOp op) r) (hl : R2M X.K r f) (ho' : OpR X (compareOp op') r') (hl' : R2M X.K r' g) (ha : PM X a ma) (hb : PM X b mb) (hc : PM X c mc) (h1 : lastMarks [op, op'] [b, c] = false := by rfl) :
    PM X (.Compare a [op, op'] [b, c] pos) (mChain f g ma mb mc) := PE_imp (pe_chain ho ho' ha hb hc h1) fun _ _ _ h => tChainM hl hl' h
theorem ptm_chain {op op' : CmpOp} {r r' : R2} {f g : T → T → Option T} (ho : OpR X (compareOp op) r) (hl : R2M X.K r f) (ho' : OpR X (compareOp op') r') (hl' : R2M X.K r' g) (ha : PM X a ma) (hb : PM X b mb) (hc : PM X c mc) (h1 : lastMarks [op, op'] [b, c] = false := by rfl) :
    PTM X (.Compare a [op, op'] [b, c] pos) (bVal (mChain f g ma mb mc)) :=
  PT_imp (pt_chain ho ho' ha hb hc h1) fun σ H Q h => tChainM hl hl' (Q := fun x H' => ∃ k, x = .bl k ∧ Q k H') (tBM h)
/-! arguments, calls of built-ins -/
variable {e : Expr} {es : List Expr} {me : EM} {ms : En → Option (List T)}
theorem pam_nil : PAM X [] aNil := by
  refine PA_imp pa_nil fun σ H Q h => ?_
  obtain ⟨G, env, F, rel, ts, e, q⟩ := h
  cases e
  exact q [] H G (Ext.refl rel.sm) .nil
theorem pam_cons (ha : PM X e me) (hr : PAM X es ms) (hs : starEach (e :: es) X.env = (false, eval e X.env) :: starEach es X.env := by rfl) : PAM X (e :: es) (aCons me ms) := by
  refine PA_imp (pa_cons ha hr hs) fun σ H Q h => ?_
  obtain ⟨G, env, F, rel, ts, e1, q⟩ := h
  simp only [aCons, Option.bind_eq_some_iff, Option.map_eq_some_iff] at e1
  obtain ⟨t, e2, tr, e3, rfl⟩ := e1
  refine ⟨G, env, F, rel, t, e2, fun x H1 G1 F1 x1 r1 => ?_⟩
  refine ⟨G1, env, F, rel.ext x1, tr, e3, fun ys H2 G2 x2 r2 => ?_⟩
  exact q (x :: ys) H2 G2 (x1.trans x2) (.cons (r1.keep x2.gg (Keep.of x2.hh)) r2)
theorem tCBM {K : PySem.W.Frag} {r : List V → Hp → VK → Prop} {f : List T → Option T} (hl : CM K r f) {σ : L2.St} {H : Hp} {Q : VK} (h : tM K (mCall f ms) σ H Q) : tCB r (tAM K ms) σ H Q := by
  obtain ⟨G, env, F, rel, t, e, q⟩ := h
  simp only [mCall, Option.bind_eq_some_iff] at e
  obtain ⟨ts, e1, e2⟩ := e
  refine ⟨G, env, F, rel, ts, e1, fun vs H1 G1 x1 r1 => ?_⟩
  exact hl G1 H1 ts t vs e2 x1.gh r1 Q fun v H' G' F' x2 r2 => q v H' G' F' (x1.trans x2) r2
theorem pm_callB {x : Str} {id : String} {r : List V → Hp → VK → Prop} {f : List T → Option T} {p : Pos} (hc : CallR X (.builtin id) r) (hl : CM X.K r f) (hg : Gl X x) (hm : X.mg x = none) (hv : bootBuiltins x = some (.builtin id)) (ha : PAM X (e :: es) ms)
    (hn : x ≠ "__name__" := by decide) (hdb : (x == ("__debug__" : Str)) = false := by decide)
    (he : starEach (e :: es) X.env = (false, eval e X.env) :: starEach es X.env := by rfl) (hpl : (backTo pos (starEach es X.env)).any (·.1) = false := by rfl) : PM X (.Call (.Name x p) (e :: es) [] pos) (mCall f ms) :=
  PE_imp (pe_callB hc hg hm hv ha hn hdb he hpl) fun _ _ _ h => tCBM hl h
theorem pm_callTy {x : Str} {id : String} {r : List V → Hp → VK → Prop} {f : List T → Option T} {p : Pos} (hc : CallR X (.type id) r) (hl : CM X.K r f) (hg : Gl X x) (hm : X.mg x = none) (hv : bootBuiltins x = some (.type id)) (ha : PAM X (e :: es) ms)
    (hn : x ≠ "__name__" := by decide) (hdb : (x == ("__debug__" : Str)) = false := by decide)
    (he : starEach (e :: es) X.env = (false, eval e X.env) :: starEach es X.env := by rfl) (hpl : (backTo pos (starEach es X.env)).any (·.1) = false := by rfl) : PM X (.Call (.Name x p) (e :: es) [] pos) (mCall f ms) :=
  PE_imp (pe_callTy hc hg hm hv ha hn hdb he hpl) fun _ _ _ h => tCBM hl h
/-! displays -/
def T.pure? : T → Option D
  | .p d => some d
  | _ => none
def pures : List T → Option (List D)
  | [] => some []
  | t :: r => t.pure?.bind fun d => (pures r).map fun ds => d :: ds
theorem pures_map : ∀ ds : List D, pures (ds.map T.p) = some ds
  | [] => rfl
  | d :: r => by simp [pures, T.pure?, pures_map r]
theorem Args.pures {K : PySem.W.Frag} {G H : Hp} : ∀ {ts : List T} {vs : List V} {ds : List D}, Args K G H ts vs → pures ts = some ds → Rps K G vs ds
  | _, _, _, .nil, e => by simp [M.pures] at e; subst e; exact .nil
  | _, _, _, .cons (t := t) h r, e => by
    simp only [M.pures, Option.bind_eq_some_iff, Option.map_eq_some_iff] at e
    obtain ⟨d, e1, ds, e2, rfl⟩ := e
    cases t with
    | p d' => simp [T.pure?] at e1; subst e1; exact .cons h.pure (Args.pures r e2)
    | _ => simp [T.pure?] at e1
def mTup (ms : En → Option (List T)) : EM := fun env => (ms env).bind fun ts => (pures ts).bind fun ds => if ds.length ≤ LIM then some (.p (.tuple ds)) else none
def mLst (ms : En → Option (List T)) : EM := fun env => (ms env).bind fun ts => (pures ts).bind fun ds => if ds.length ≤ LIM then some (.p (.list ds)) else none
theorem pm_tup {x1} (h : PAM X es ms) : PM X (.Tuple es x1 pos) (mTup ms) := by
  refine PE_imp (pe_tup h) fun σ H Q q => ?_
  obtain ⟨G, env, F, rel, t, e1, q⟩ := q
  simp only [mTup, Option.bind_eq_some_iff] at e1
  obtain ⟨ts, e2, ds, e3, e4⟩ := e1
  split at e4
  · rename_i hz
    cases e4
    refine ⟨G, env, F, rel, ts, e2, fun vs H1 G1 x1 r1 => ?_⟩
    have rr := r1.pures e3
    refine ⟨by rw [rr.length]; exact Nat.le_trans hz LIM_line, fun p np => ?_⟩
    have x2 := Ext.new (o := .tup vs) x1.gh np
    exact q _ _ _ [] (x1.trans x2) (.p (.tup (.inl (.inl upd_same)) (rr.mono x2.gg)))
  · cases e4
theorem pm_lst (h : PAM X es ms) : PM X (.List es pos) (mLst ms) := by
  refine PE_imp (pe_lst h) fun σ H Q q => ?_
  obtain ⟨G, env, F, rel, t, e1, q⟩ := q
  simp only [mLst, Option.bind_eq_some_iff] at e1
  obtain ⟨ts, e2, ds, e3, e4⟩ := e1
  split at e4
  · rename_i hz
    cases e4
    refine ⟨G, env, F, rel, ts, e2, fun vs H1 G1 x1 r1 => ?_⟩
    have rr := r1.pures e3
    refine ⟨by rw [rr.length]; exact Nat.le_trans hz LIM_line, fun p np => ?_⟩
    have x2 := Ext.new (o := .lst vs) x1.gh np
    exact q _ _ _ [] (x1.trans x2) (.p (.lst upd_same (rr.mono x2.gg)))
  · cases e4
end
end M
/-! M3: operators and built-ins on trees. -/
namespace M
open PySem PySem.Spec PyProof.Rows L2

/-! ### shapes -/
def T.int? : T → Option Int
  | .p (.int i) => some i
  | _ => none
def T.kids : T → Option (List T)
  | .p (.list ds) => some (ds.map T.p)
  | .p (.tuple ds) => some (ds.map T.p)
  | .sc ns => some ((ns.map PyData.int).map T.p)
  | .ml ts => some ts
  | .tp ts => some ts
  | _ => none
/-- a tracked list of pure items -/
def T.lst? : T → Option (List D)
  | .p (.list ds) => some ds
  | .ml ts => pures ts
  | _ => none
def T.tup? : T → Option (List D)
  | .p (.tuple ds) => some ds
  | .tp ts => pures ts
  | _ => none
def T.ptup? : T → Option (List D)
  | .p (.tuple ds) => some ds
  | _ => none
/-- a list that may be read -/
def T.seq? : T → Option (List D)
  | .p (.list ds) => some ds
  | .ml ts => pures ts
  | .sc ns => some (ns.map PyData.int)
  | _ => none

section
variable {K : PySem.W.Frag} {G H : Hp} {t : T} {v : V} {F : List Addr}
theorem TR.int (r : TR K G H t v F) {i : Int} (e : t.int? = some i) : v = .int i := by
  cases r with
  | p h => cases h <;> simp [T.int?] at e; subst e; rfl
  | _ => simp [T.int?] at e
theorem TR.kids (r : TR K G H t v F) (s : Same G H) {ts : List T} (e : t.kids = some ts) : ∃ a vs, v = .ref a ∧ (SqL K H a vs ∨ SqT K H a vs) ∧ Args K G H ts vs := by
  cases r with
  | p h =>
    cases h with
    | lst h r => simp [T.kids] at e; subst e; exact ⟨_, _, rfl, .inl (.inl (.inl (s _ _ h))), Rps.args r⟩
    | tup h r => simp [T.kids] at e; subst e; exact ⟨_, _, rfl, .inr (Same.seqT s h), Rps.args r⟩
    | _ => simp [T.kids] at e
  | sc h => simp only [T.kids, Option.some.injEq] at e; subst e; exact ⟨_, _, rfl, .inl (s.seq h), Rps.args (Rps.of_ints _)⟩
  | ml h r => simp [T.kids] at e; subst e; exact ⟨_, _, rfl, .inl (.inl (.inl h)), r.args⟩
  | tp h r => simp [T.kids] at e; subst e; exact ⟨_, _, rfl, .inr (.inl (.inl h)), r.args⟩
  | _ => simp [T.kids] at e
theorem TR.lst (r : TR K G H t v F) (s : Same G H) {ds : List D} (e : t.lst? = some ds) : ∃ a vs, v = .ref a ∧ H a = some (.lst vs) ∧ Rps K G vs ds := by
  cases r with
  | p h =>
    cases h with
    | lst h r => simp [T.lst?] at e; subst e; exact ⟨_, _, rfl, s _ _ h, r⟩
    | _ => simp [T.lst?] at e
  | ml h r => exact ⟨_, _, rfl, h, r.args.pures e⟩
  | _ => simp [T.lst?] at e
theorem TR.tup (r : TR K G H t v F) (s : Same G H) {ds : List D} (e : t.tup? = some ds) : ∃ a vs, v = .ref a ∧ SqT K H a vs ∧ Rps K G vs ds := by
  cases r with
  | p h =>
    cases h with
    | tup h r => simp [T.tup?] at e; subst e; exact ⟨_, _, rfl, Same.seqT s h, r⟩
    | _ => simp [T.tup?] at e
  | tp h r => exact ⟨_, _, rfl, .inl (.inl h), r.args.pures e⟩
  | _ => simp [T.tup?] at e
theorem TR.ptup (r : TR K G H t v F) {ds : List D} (e : t.ptup? = some ds) : ∃ a vs, v = .ref a ∧ SqT K G a vs ∧ Rps K G vs ds := by
  cases r with
  | p h =>
    cases h with
    | tup h r => simp [T.ptup?] at e; subst e; exact ⟨_, _, rfl, h, r⟩
    | _ => simp [T.ptup?] at e
  | _ => simp [T.ptup?] at e
theorem TR.seq (r : TR K G H t v F) (s : Same G H) {ds : List D} (e : t.seq? = some ds) : ∃ a vs, v = .ref a ∧ SqL K H a vs ∧ Rps K G vs ds := by
  cases r with
  | p h =>
    cases h with
    | lst h r => simp [T.seq?] at e; subst e; exact ⟨_, _, rfl, .inl (.inl (s _ _ h)), r⟩
    | _ => simp [T.seq?] at e
  | ml h r => exact ⟨_, _, rfl, .inl (.inl h), r.args.pures e⟩
  | sc h => simp only [T.seq?, Option.some.injEq] at e; subst e; exact ⟨_, _, rfl, s.seq h, Rps.of_ints _⟩
  | _ => simp [T.seq?] at e
theorem Args.at {ts : List T} {vs : List V} (r : Args K G H ts vs) {i : Int} {t : T} (e : atI ts i = some t) : ∃ v F, atI vs i = some v ∧ TR K G H t v F := by
  unfold atI at e ⊢
  rw [Option.bind_eq_some_iff] at e
  obtain ⟨j, e1, e2⟩ := e
  obtain ⟨v, F, h1, h2⟩ := r.get e2
  exact ⟨v, F, by rw [← r.length, e1]; exact h1, h2⟩
end

/-! ### numbers -/
def iOp (f : Int → Int → Option Int) : T → T → Option T := fun a b => a.int?.bind fun i => b.int?.bind fun j => (f i j).map fun k => .p (.int k)
def cOp (f : Int → Int → Bool) : T → T → Option T := fun a b => a.int?.bind fun i => b.int?.map fun j => .p (.bool (f i j))
section
variable {K : PySem.W.Frag}
theorem r2m_i {C : Int → Int → Prop} {g : Int → Int → Int} {f : Int → Int → Option Int} (h : ∀ i j k, f i j = some k → C i j ∧ k = g i j) : R2M K (rI C fun i j => .int (g i j)) (iOp f) := by
  intro G H t1 t2 t x y F1 F2 e s r1 r2 Q q
  simp only [iOp, Option.bind_eq_some_iff, Option.map_eq_some_iff] at e
  obtain ⟨i, e1, j, e2, k, e3, rfl⟩ := e
  obtain ⟨c, rfl⟩ := h i j k e3
  exact ⟨i, j, r1.int e1, r2.int e2, c, q _ H G [] (Ext.refl s) (.p (.int _))⟩
theorem r2m_i0 {g : Int → Int → Int} : R2M K (rI0 fun i j => .int (g i j)) (iOp fun i j => some (g i j)) := by
  intro G H t1 t2 t x y F1 F2 e s r1 r2 Q q
  simp only [iOp, Option.bind_eq_some_iff, Option.map_eq_some_iff] at e
  obtain ⟨i, e1, j, e2, k, e3, rfl⟩ := e
  cases e3
  exact ⟨i, j, r1.int e1, r2.int e2, q _ H G [] (Ext.refl s) (.p (.int _))⟩
theorem r2m_c {g : Int → Int → Bool} : R2M K (rI0 fun i j => .bl (g i j)) (cOp g) := by
  intro G H t1 t2 t x y F1 F2 e s r1 r2 Q q
  simp only [cOp, Option.bind_eq_some_iff, Option.map_eq_some_iff] at e
  obtain ⟨i, e1, j, e2, rfl⟩ := e
  exact ⟨i, j, r1.int e1, r2.int e2, q _ H G [] (Ext.refl s) (.p (.bl _))⟩
end
def mulOk (i j : Int) : Bool := decide (i.natAbs < 2 ^ 64) || decide (j.natAbs < 2 ^ 64) || decide (i.natAbs.log2 + j.natAbs.log2 < 1000000)
def CMulB (i j : Int) : Prop := mulOk i j = true
theorem CMulB.ok {i j : Int} (h : CMulB i j) : IntMulOk i j := by
  unfold CMulB mulOk at h
  simp only [Bool.or_eq_true, decide_eq_true_eq] at h
  rcases h with (h | h) | h
  · exact (show CMul i j from .inl ⟨by omega, by omega⟩).ok
  · exact (show CMul i j from .inr ⟨by omega, by omega⟩).ok
  · exact (show CMulW i j from h).ok
def divOk (j : Int) : Bool := decide (j ≠ 0) && decide (j.natAbs.log2 < 9000)
def CDivB (_ j : Int) : Prop := divOk j = true
section
variable {X : Cx}
theorem op_mulB : OpR X (binaryOp .Mult) (rI CMulB fun i j => .int (i * j)) := opI fun _ _ _ _ _ _ _ hc q => mul_int q hc.ok
theorem op_fdivB : OpR X (binaryOp .FloorDiv) (rI CDivB fun i j => .int (i.fdiv j)) := opI fun i j _ _ _ _ _ hc q => by
  have h : divOk j = true := hc
  unfold divOk at h
  simp only [Bool.and_eq_true, decide_eq_true_eq] at h
  exact floordiv_int h.1 q (.inl (PyProof.noPylong_of_log2 h.2))
end
/-! ### +, * of anything -/
def subT : T → T → Option T := iOp fun i j => some (i - j)
def modT : T → T → Option T := iOp fun i j => if j = 0 then none else some (i.fmod j)
def fdivT : T → T → Option T := iOp fun i j => if divOk j then some (i.fdiv j) else none
def powT : T → T → Option T := iOp fun i j => if 0 ≤ j ∧ j ≤ 1000000 ∧ i.natAbs < 2 ^ 64 then some (i ^ j.toNat) else none
def shlT : T → T → Option T := iOp fun i j => if 0 ≤ j ∧ j ≤ 1000000 ∧ i.natAbs < 2 ^ 64 then some (i * 2 ^ j.toNat) else none
def shrT : T → T → Option T := iOp fun i j => if 0 ≤ j then some (i / 2 ^ j.toNat) else none
def andT : T → T → Option T := iOp fun i j => some (Builtin.bitAnd i j)
def xorT : T → T → Option T := iOp fun i j => some (Builtin.bitXor i j)
def ltT : T → T → Option T := cOp fun i j => decide (i < j)
def leT : T → T → Option T := cOp fun i j => decide (i ≤ j)
def gtT : T → T → Option T := cOp fun i j => decide (j < i)
def geT : T → T → Option T := cOp fun i j => decide (j ≤ i)
def addT : T → T → Option T := fun a b =>
  match a.int?, b.int? with
  | some i, some j => some (.p (.int (i + j)))
  | _, _ => match a.lst?, b.lst? with
    | some xs, some ys => if xs.length + ys.length ≤ LIM then some (.p (.list (xs ++ ys))) else none
    | _, _ => match a.ptup?, b.ptup? with
      | some xs, some ys => if xs.length + ys.length ≤ LIM then some (.p (.tuple (xs ++ ys))) else none
      | _, _ => match a, b with
        | .p (.str x), .p (.str y) => if x.length + y.length ≤ LIM then some (.p (.str (x ++ y))) else none
        | _, _ => none
def mulT : T → T → Option T := fun a b =>
  match a.int?, b.int? with
  | some i, some j => if mulOk i j then some (.p (.int (i * j))) else none
  | _, some j => match a.lst? with
    | some xs => if -(2 ^ 62) ≤ j ∧ j < 2 ^ 62 ∧ xs.length * j.toNat ≤ LIM then some (.p (.list (List.replicate j.toNat xs).flatten)) else none
    | none => match a.tup? with
      | some xs => if xs ≠ [] ∧ 2 ≤ j ∧ j ≤ 1000 ∧ xs.length ≤ 1000 then some (.p (.tuple (List.replicate j.toNat xs).flatten)) else none
      | none => none
  | _, none => none
def rAddA (K : PySem.W.Frag) : R2 := fun x y H Q => (rI0 (fun i j => .int (i + j)) x y H Q ∨ rCat x y H Q) ∨ (rCatA K x y H Q ∨ ∃ i j, x = .str i ∧ y = .str j ∧ i.length + j.length ≤ sizeLine ∧ Q (.str (i ++ j)) H)
def rMulA (K : PySem.W.Frag) : R2 := fun x y H Q => rI CMulB (fun i j => .int (i * j)) x y H Q ∨ (rRep x y H Q ∨ rRepT K x y H Q)
theorem op_addA {X : Cx} : OpR X (binaryOp .Add) (rAddA X.K) := (op_add.or op_cat).or (op_catA.or op_add_str)
theorem op_mulA {X : Cx} : OpR X (binaryOp .Mult) (rMulA X.K) := op_mulB.or (op_rep.or op_repT)
section
variable {K : PySem.W.Frag}
theorem r2m_sub : R2M K (rI0 fun i j => .int (i - j)) subT := r2m_i0
theorem r2m_mod : R2M K (rI (fun _ j => j ≠ 0) fun i j => .int (i.fmod j)) modT := r2m_i fun i j k e => by
  split at e
  · cases e
  · rename_i h; cases e; exact ⟨h, rfl⟩
theorem r2m_fdiv : R2M K (rI CDivB fun i j => .int (i.fdiv j)) fdivT := r2m_i fun i j k e => by
  split at e
  · rename_i h; cases e; exact ⟨h, rfl⟩
  · cases e
theorem r2m_pow : R2M K (rI CPow fun i j => .int (i ^ j.toNat)) powT := r2m_i fun i j k e => by
  split at e
  · rename_i h; cases e; exact ⟨h, rfl⟩
  · cases e
theorem r2m_shl : R2M K (rI CPow fun i j => .int (i * 2 ^ j.toNat)) shlT := r2m_i fun i j k e => by
  split at e
  · rename_i h; cases e; exact ⟨h, rfl⟩
  · cases e
theorem r2m_shr : R2M K (rI (fun _ j => 0 ≤ j) fun i j => .int (i / 2 ^ j.toNat)) shrT := r2m_i fun i j k e => by
  split at e
  · rename_i h; cases e; exact ⟨h, rfl⟩
  · cases e
theorem r2m_and : R2M K (rI0 fun i j => .int (Builtin.bitAnd i j)) andT := r2m_i0
theorem r2m_xor : R2M K (rI0 fun i j => .int (Builtin.bitXor i j)) xorT := r2m_i0
theorem r2m_lt : R2M K (rI0 fun i j => .bl (decide (i < j))) ltT := r2m_c
theorem r2m_le : R2M K (rI0 fun i j => .bl (decide (i ≤ j))) leT := r2m_c
theorem r2m_gt : R2M K (rI0 fun i j => .bl (decide (j < i))) gtT := r2m_c
theorem r2m_ge : R2M K (rI0 fun i j => .bl (decide (j ≤ i))) geT := r2m_c
theorem r2m_add : R2M K (rAddA K) addT := by
  intro G H t1 t2 t x y F1 F2 e s r1 r2 Q q
  unfold addT at e
  split at e
  · rename_i i j e1 e2
    cases e
    exact .inl (.inl ⟨i, j, r1.int e1, r2.int e2, q _ H G [] (Ext.refl s) (.p (.int _))⟩)
  · split at e
    · rename_i xs ys e1 e2
      split at e
      · rename_i hz
        cases e
        obtain ⟨a, vs, rfl, h1, p1⟩ := r1.lst s e1
        obtain ⟨b, ws, rfl, h2, p2⟩ := r2.lst s e2
        refine .inl (.inr ⟨a, b, vs, ws, rfl, rfl, h1, h2, by rw [p1.length, p2.length]; exact Nat.le_trans hz LIM_line, fun p np => ?_⟩)
        have x2 := Ext.new (o := .lst (vs ++ ws)) s np
        exact q _ _ _ [] x2 (.p (.lst upd_same ((p1.append p2).mono x2.gg)))
      · cases e
    · split at e
      · rename_i xs ys e1 e2
        split at e
        · rename_i hz
          cases e
          obtain ⟨a, vs, rfl, g1, p1⟩ := r1.ptup e1
          obtain ⟨b, ws, rfl, g2, p2⟩ := r2.ptup e2
          refine .inr (.inl ⟨a, b, vs, ws, rfl, rfl, Same.seqT s g1, Same.seqT s g2, by rw [p1.length, p2.length]; exact Nat.le_trans hz LIM_line, fun z => ?_, fun _ z => ?_, fun _ _ p np => ?_⟩)
          · subst z
            cases p1
            exact q _ H G [] (Ext.refl s) (.p (.tup g2 p2))
          · subst z
            cases p2
            rw [List.append_nil] at q
            exact q _ H G [] (Ext.refl s) (.p (.tup g1 p1))
          · have x2 := Ext.new (o := .tup (vs ++ ws)) s np
            exact q _ _ _ [] x2 (.p (.tup (.inl (.inl upd_same)) ((p1.append p2).mono x2.gg)))
        · cases e
      · split at e
        · split at e
          · rename_i hz
            cases e
            cases r1.pure
            cases r2.pure
            exact .inr (.inr ⟨_, _, rfl, rfl, Nat.le_trans hz LIM_line, q _ H G [] (Ext.refl s) (.p (.str _))⟩)
          · cases e
        · cases e
theorem r2m_mul : R2M K (rMulA K) mulT := by
  intro G H t1 t2 t x y F1 F2 e s r1 r2 Q q
  unfold mulT at e
  split at e
  · rename_i i j e1 e2
    split at e
    · rename_i hz
      cases e
      exact .inl ⟨i, j, r1.int e1, r2.int e2, hz, q _ H G [] (Ext.refl s) (.p (.int _))⟩
    · cases e
  · rename_i o1 o2 j e1 e2
    split at e
    · rename_i xs e3
      split at e
      · rename_i hz
        cases e
        obtain ⟨a, vs, rfl, h1, p1⟩ := r1.lst s e3
        refine .inr (.inl ⟨a, j, vs, rfl, r2.int e1, h1, by omega, by omega, by rw [p1.length]; exact Nat.le_trans hz.2.2 LIM_line, fun p np => ?_⟩)
        have x2 := Ext.new (o := .lst (List.replicate j.toNat vs).flatten) s np
        exact q _ _ _ [] x2 (.p (.lst upd_same ((p1.rep _).mono x2.gg)))
      · cases e
    · split at e
      · rename_i xs e3
        split at e
        · rename_i hz
          cases e
          obtain ⟨a, vs, rfl, h1, p1⟩ := r1.tup s e3
          refine .inr (.inr ⟨a, j, vs, rfl, r2.int e1, h1, fun z => ?_, hz.2.1, hz.2.2.1, by rw [p1.length]; exact hz.2.2.2, fun p np => ?_⟩)
          · subst z
            cases p1
            exact hz.1 rfl
          · have x2 := Ext.new (o := .tup (List.replicate j.toNat vs).flatten) s np
            exact q _ _ _ [] x2 (.p (.tup (.inl (.inl upd_same)) ((p1.rep _).mono x2.gg)))
        · cases e
      · cases e
  · cases e
end

/-! ### ==, != -/
mutual
theorem Rp.dp {K : PySem.W.Frag} {H : Hp} : ∀ {v : V} {d : D}, Rp K H v d → d.canLay0 = true → Dp K H v d
  | _, _, .non, _ => .non
  | _, _, .bl b, _ => .bl b
  | _, _, .int i, _ => .int i
  | _, _, .str x, _ => .str x
  | _, _, .lst h r, e => .lst (.inl (.inl h)) (Rps.dp r (by simpa only [PyData.canLay0] using e))
  | _, _, .tup h r, e => .tup h (Rps.dp r (by simpa only [PyData.canLay0] using e))
  | _, _, .dct h r, e => by simp [PyData.canLay0] at e
theorem Rps.dp {K : PySem.W.Frag} {H : Hp} : ∀ {v : List V} {d : List D}, Rps K H v d → PyData.canLayAll0 d = true → DpAll K H v d
  | _, _, .nil, _ => .nil
  | _, _, .cons h r, e => by
    simp only [PyData.canLayAll0, Bool.and_eq_true] at e
    exact .cons (Rp.dp h e.1) (Rps.dp r e.2)
end
def eqT : T → T → Option T := fun a b => a.snap.bind fun d => b.snap.bind fun e => if SeqAt.shaped d = true ∧ SeqAt.shaped e = true then some (.p (.bool (PyData.eqv d e))) else none
def neT : T → T → Option T := fun a b => a.snap.bind fun d => b.snap.bind fun e => if SeqAt.shaped d = true ∧ SeqAt.shaped e = true then some (.p (.bool (!PyData.eqv d e))) else none
section
variable {K : PySem.W.Frag}
theorem r2m_eq : R2M K (rEqD K) eqT := by
  intro G H t1 t2 t x y F1 F2 e s r1 r2 Q q
  simp only [eqT, Option.bind_eq_some_iff] at e
  obtain ⟨d, e1, d2, e2, e3⟩ := e
  split at e3
  · rename_i hz
    cases e3
    exact ⟨d, d2, (r1.live s e1).dp (SeqAt.canLay_of_shaped hz.1), (r2.live s e2).dp (SeqAt.canLay_of_shaped hz.2), hz.1, hz.2, q _ H G [] (Ext.refl s) (.p (.bl _))⟩
  · cases e3
theorem r2m_ne : R2M K (rNeD K) neT := by
  intro G H t1 t2 t x y F1 F2 e s r1 r2 Q q
  simp only [neT, Option.bind_eq_some_iff] at e
  obtain ⟨d, e1, d2, e2, e3⟩ := e
  split at e3
  · rename_i hz
    cases e3
    exact ⟨d, d2, (r1.live s e1).dp (SeqAt.canLay_of_shaped hz.1), (r2.live s e2).dp (SeqAt.canLay_of_shaped hz.2), hz.1, hz.2, q _ H G [] (Ext.refl s) (.p (.bl _))⟩
  · cases e3
/-! ### x is None -/
def isnT : T → T → Option T := fun a b => match a, b with
  | .p d, .p .none => some (.p (.bool (match d with | .none => true | _ => false)))
  | _, _ => none
def notnT : T → T → Option T := fun a b => match a, b with
  | .p d, .p .none => some (.p (.bool (match d with | .none => false | _ => true)))
  | _, _ => none
theorem r2m_isn : R2M K (fun x y H Q => y = .non ∧ Q (.bl (decide (x = .non))) H) isnT := by
  intro G H t1 t2 t x y F1 F2 e s r1 r2 Q q
  unfold isnT at e
  split at e
  · cases e
    have h2 := r2.pure
    have h1 := r1.pure
    cases h2
    refine ⟨rfl, q _ H G [] (Ext.refl s) (.p ?_)⟩
    cases h1 <;> exact .bl _
  · cases e
theorem r2m_notn : R2M K (fun x y H Q => y = .non ∧ Q (.bl (!decide (x = .non))) H) notnT := by
  intro G H t1 t2 t x y F1 F2 e s r1 r2 Q q
  unfold notnT at e
  split at e
  · cases e
    have h2 := r2.pure
    have h1 := r1.pure
    cases h2
    refine ⟨rfl, q _ H G [] (Ext.refl s) (.p ?_)⟩
    cases h1 <;> exact .bl _
  · cases e
/-! ### a[i] of a list, a tuple, a text -/
def idxT : T → T → Option T := fun a b => b.int?.bind fun i => match a with
  | .p (.str z) => if z.length ≤ LIM then (atI z.cps.toList i).map fun c => .p (.str ⟨#[c]⟩) else none
  | a => a.kids.bind fun ts => atI ts i
theorem r2m_ix : R2M K (rIx K) idxT := by
  intro G H t1 t2 t x y F1 F2 e s r1 r2 Q q
  simp only [idxT, Option.bind_eq_some_iff] at e
  obtain ⟨i, e1, e2⟩ := e
  split at e2
  · split at e2
    · rename_i z hz
      rw [Option.map_eq_some_iff] at e2
      obtain ⟨c, e3, rfl⟩ := e2
      cases r1.pure
      exact .inr (.inr ⟨z, i, c, rfl, r2.int e1, Nat.le_trans hz LIM_line, e3, q _ H G [] (Ext.refl s) (.p (.str _))⟩)
    · cases e2
  · rw [Option.bind_eq_some_iff] at e2
    obtain ⟨ts, e3, e4⟩ := e2
    obtain ⟨a, vs, rfl, h1, p1⟩ := r1.kids s e3
    obtain ⟨v, F, h2, h3⟩ := p1.at e4
    rcases h1 with h1 | h1
    · exact .inl ⟨a, vs, i, v, rfl, r2.int e1, h1, h2, q v H G F (Ext.refl s) h3⟩
    · exact .inr (.inl ⟨a, vs, i, v, rfl, r2.int e1, h1, h2, q v H G F (Ext.refl s) h3⟩)
/-! ### x in xs -/
def flatD : D → Bool
  | .none | .bool _ | .int _ | .str _ => true
  | _ => false
theorem Rp.flat {G : Hp} {v : V} {d : D} (r : Rp K G v d) (f : flatD d = true) : flatV v = true := by
  cases r <;> first | rfl | simp [flatD] at f
theorem Rp.eqv {G G' : Hp} {v u : V} {d e : D} (r : Rp K G v d) (r' : Rp K G' u e) (f : flatD d = true) (f' : flatD e = true) : eqV v u = PyData.eqv d e := by
  cases r <;> first | (simp [flatD] at f; done) | (cases r' <;> first | (simp [flatD] at f'; done) | simp [eqV, PyData.eqv])
theorem Rps.any {G G' : Hp} {u : V} {e : D} (r' : Rp K G' u e) (f' : flatD e = true) : ∀ {vs : List V} {ds : List D}, Rps K G vs ds → ds.all flatD = true → vs.all flatV = true ∧ inV u vs = ds.any fun z => PyData.eqv z e
  | _, _, .nil, _ => ⟨rfl, rfl⟩
  | _, _, .cons h r, f => by
    rw [List.all_cons, Bool.and_eq_true] at f
    obtain ⟨h1, h2⟩ := Rps.any r' f' r f.2
    refine ⟨by rw [List.all_cons, h.flat f.1, h1]; rfl, ?_⟩
    unfold inV at h2 ⊢
    rw [List.any_cons, List.any_cons, h2, h.eqv r' f.1 f']
def T.any? : T → Option (List D) := fun t => match t.seq? with
  | some ds => some ds
  | none => t.tup?
theorem TR.any {G H : Hp} {t : T} {v : V} {F : List Addr} (r : TR K G H t v F) (s : Same G H) {ds : List D} (e : t.any? = some ds) : ∃ a vs, v = .ref a ∧ (SqL K H a vs ∨ SqT K H a vs) ∧ Rps K G vs ds := by
  unfold T.any? at e
  split at e
  · rename_i e1
    cases e
    obtain ⟨a, vs, h1, h2, h3⟩ := r.seq s e1
    exact ⟨a, vs, h1, .inl h2, h3⟩
  · obtain ⟨a, vs, h1, h2, h3⟩ := r.tup s e
    exact ⟨a, vs, h1, .inr h2, h3⟩
def inT : T → T → Option T := fun a b => a.pure?.bind fun d => b.any?.bind fun ds => if flatD d = true ∧ ds.all flatD = true then some (.p (.bool (ds.any fun z => PyData.eqv z d))) else none
def notInT : T → T → Option T := fun a b => a.pure?.bind fun d => b.any?.bind fun ds => if flatD d = true ∧ ds.all flatD = true then some (.p (.bool (!ds.any fun z => PyData.eqv z d))) else none
theorem TR.of_pure? {G H : Hp} {t : T} {v : V} {F : List Addr} {d : D} (r : TR K G H t v F) (e : t.pure? = some d) : Rp K G v d := by
  cases t with
  | p d' => simp [T.pure?] at e; subst e; exact r.pure
  | _ => simp [T.pure?] at e
theorem r2m_in : R2M K (rIn K false) inT := by
  intro G H t1 t2 t x y F1 F2 e s r1 r2 Q q
  simp only [inT, Option.bind_eq_some_iff] at e
  obtain ⟨d, e1, ds, e2, e3⟩ := e
  split at e3
  · rename_i hz
    cases e3
    obtain ⟨a, vs, rfl, h1, p1⟩ := r2.any s e2
    have rd := r1.of_pure? e1
    obtain ⟨h2, h3⟩ := Rps.any rd hz.1 p1 hz.2
    refine ⟨a, vs, rfl, h1, rd.flat hz.1, h2, q _ H G [] (Ext.refl s) (.p ?_)⟩
    rw [if_neg Bool.false_ne_true, h3]
    exact .bl _
  · cases e3
theorem r2m_notIn : R2M K (rIn K true) notInT := by
  intro G H t1 t2 t x y F1 F2 e s r1 r2 Q q
  simp only [notInT, Option.bind_eq_some_iff] at e
  obtain ⟨d, e1, ds, e2, e3⟩ := e
  split at e3
  · rename_i hz
    cases e3
    obtain ⟨a, vs, rfl, h1, p1⟩ := r2.any s e2
    have rd := r1.of_pure? e1
    obtain ⟨h2, h3⟩ := Rps.any rd hz.1 p1 hz.2
    refine ⟨a, vs, rfl, h1, rd.flat hz.1, h2, q _ H G [] (Ext.refl s) (.p ?_)⟩
    rw [if_pos rfl, h3]
    exact .bl _
  · cases e3
end
end M
/-! M4: calls of built-ins, slices, isinstance. -/
namespace M
open PySem PySem.Spec PyProof.Rows L2

def intsOf : List D → Option (List Int)
  | [] => some []
  | .int i :: r => (intsOf r).map fun ns => i :: ns
  | _ :: _ => none
theorem intsOf_eq : ∀ {ds : List D} {ns : List Int}, intsOf ds = some ns → ds = ns.map PyData.int
  | [], _, e => by cases e; rfl
  | .int i :: r, _, e => by
    simp only [intsOf, Option.map_eq_some_iff] at e
    obtain ⟨ns, e1, rfl⟩ := e
    rw [intsOf_eq e1]; rfl
  | .none :: _, _, e => by simp [intsOf] at e
  | .bool _ :: _, _, e => by simp [intsOf] at e
  | .str _ :: _, _, e => by simp [intsOf] at e
  | .list _ :: _, _, e => by simp [intsOf] at e
  | .tuple _ :: _, _, e => by simp [intsOf] at e
  | .dict _ :: _, _, e => by simp [intsOf] at e
theorem intsOf_map : ∀ ns : List Int, intsOf (ns.map PyData.int) = some ns
  | [] => rfl
  | n :: r => by simp [intsOf, intsOf_map r]
def boolsOf : List D → Option (List Bool)
  | [] => some []
  | .bool i :: r => (boolsOf r).map fun ns => i :: ns
  | _ :: _ => none
theorem boolsOf_eq : ∀ {ds : List D} {ns : List Bool}, boolsOf ds = some ns → ds = ns.map PyData.bool
  | [], _, e => by cases e; rfl
  | .bool i :: r, _, e => by
    simp only [boolsOf, Option.map_eq_some_iff] at e
    obtain ⟨ns, e1, rfl⟩ := e
    rw [boolsOf_eq e1]; rfl
  | .none :: _, _, e => by simp [boolsOf] at e
  | .int _ :: _, _, e => by simp [boolsOf] at e
  | .str _ :: _, _, e => by simp [boolsOf] at e
  | .list _ :: _, _, e => by simp [boolsOf] at e
  | .tuple _ :: _, _, e => by simp [boolsOf] at e
  | .dict _ :: _, _, e => by simp [boolsOf] at e
theorem boolsOf_map : ∀ ns : List Bool, boolsOf (ns.map PyData.bool) = some ns
  | [] => rfl
  | n :: r => by simp [boolsOf, boolsOf_map r]

section
variable {K : PySem.W.Frag} {G H : Hp}
theorem Args.one {t : T} {vs : List V} (r : Args K G H [t] vs) : ∃ v F, vs = [v] ∧ TR K G H t v F := by
  cases r with
  | cons h r => cases r; exact ⟨_, _, rfl, h⟩
theorem Args.two {t u : T} {vs : List V} (r : Args K G H [t, u] vs) : ∃ v w F F', vs = [v, w] ∧ TR K G H t v F ∧ TR K G H u w F' := by
  cases r with
  | cons h r => cases r with
    | cons h' r => cases r; exact ⟨_, _, _, _, rfl, h, h'⟩
end

/-! ### len -/
def lenT : List T → Option T
  | [.p (.str z)] => if z.length ≤ LIM then some (.p (.int z.length)) else none
  | [.md kvs] => some (.p (.int kvs.length))
  | [.p (.dict kvs)] => some (.p (.int kvs.length))
  | [t] => t.kids.map fun ts => .p (.int ts.length)
  | _ => none
def rLenA (K : PySem.W.Frag) : List V → Hp → VK → Prop := fun xs H Q => (∃ x n, xs = [x] ∧ LenV K x H n ∧ Q (.int n) H) ∨ (∃ (a : Addr) (kvs : List (Key × V)), xs = [.ref a] ∧ H a = some (.dK kvs) ∧ Q (.int kvs.length) H)
theorem Rpk.length {K : PySem.W.Frag} {G : Hp} : ∀ {a : List (Key × V)} {b : List (D × D)}, Rpk K G a b → a.length = b.length
  | _, _, .nil => rfl
  | _, _, .cons _ r => by simp [r.length]
theorem KR.length {K : PySem.W.Frag} {G : Hp} : ∀ {a : List (Key × V)} {b : List (Key × D)}, KR K G a b → a.length = b.length
  | _, _, .nil => rfl
  | _, _, .cons _ r => by simp [r.length]
theorem call_lenA {X : Cx} : CallR X (.builtin "len") (rLenA X.K) := call_len.or (by
  intro pins s σ H xs us Q I r h
  obtain ⟨a, kvs, rfl, hd, q⟩ := h
  exact call_lenD pins s σ H _ us Q I r ⟨a, kvs, rfl, hd, q⟩)
section
variable {K : PySem.W.Frag}
theorem cm_len : CM K (rLenA K) lenT := by
  intro G H ts t xs e s r Q q
  unfold lenT at e
  split at e
  · split at e
    · rename_i z hz
      cases e
      obtain ⟨v, F, rfl, h⟩ := r.one
      cases h.pure
      exact .inl ⟨_, _, rfl, ⟨Nat.le_trans hz LIM_line, rfl⟩, q _ H G [] (Ext.refl s) (.p (.int _))⟩
    · cases e
  · cases e
    obtain ⟨v, F, rfl, h⟩ := r.one
    cases h with
    | md h k => exact .inr ⟨_, _, rfl, h, q _ H G [] (Ext.refl s) (.p (by rw [k.length]; exact .int _))⟩
  · cases e
    obtain ⟨v, F, rfl, h⟩ := r.one
    cases h.pure with
    | dct h9 k9 => exact .inr ⟨_, _, rfl, s _ _ h9, q _ H G [] (Ext.refl s) (.p (by rw [k9.length]; exact .int _))⟩
  · rw [Option.map_eq_some_iff] at e
    obtain ⟨ks, e1, rfl⟩ := e
    obtain ⟨v, F, rfl, h⟩ := r.one
    obtain ⟨a, vs, rfl, h1, p1⟩ := h.kids s e1
    refine .inl ⟨_, vs.length, rfl, ?_, q _ H G [] (Ext.refl s) (.p (by rw [p1.length]; exact .int _))⟩
    rcases h1 with h1 | h1
    · exact .inl ⟨vs, h1, rfl⟩
    · exact .inr ⟨vs, h1, rfl⟩
  · cases e
/-! ### sum, all, any, max, min, abs -/
def sumT : List T → Option T
  | [t] => t.seq?.bind fun ds => (intsOf ds).map fun ns => .p (.int ns.sum)
  | _ => none
theorem cm_sum : CM K (rSum K) sumT := by
  intro G H ts t xs e s r Q q
  unfold sumT at e
  split at e
  · simp only [Option.bind_eq_some_iff, Option.map_eq_some_iff] at e
    obtain ⟨ds, e1, ns, e2, rfl⟩ := e
    obtain ⟨v, F, rfl, h⟩ := r.one
    obtain ⟨a, vs, rfl, h1, p1⟩ := h.seq s e1
    rw [intsOf_eq e2] at p1
    rw [p1.ints] at h1
    exact ⟨a, ns, rfl, h1, q _ H G [] (Ext.refl s) (.p (.int _))⟩
  · cases e
def allT : List T → Option T
  | [t] => t.seq?.bind fun ds => (boolsOf ds).map fun ns => .p (.bool (ns.all id))
  | _ => none
def anyT : List T → Option T
  | [t] => t.seq?.bind fun ds => (boolsOf ds).map fun ns => .p (.bool (ns.any id))
  | _ => none
theorem cm_all : CM K (rAll K) allT := by
  intro G H ts t xs e s r Q q
  unfold allT at e
  split at e
  · simp only [Option.bind_eq_some_iff, Option.map_eq_some_iff] at e
    obtain ⟨ds, e1, ns, e2, rfl⟩ := e
    obtain ⟨v, F, rfl, h⟩ := r.one
    obtain ⟨a, vs, rfl, h1, p1⟩ := h.seq s e1
    rw [boolsOf_eq e2] at p1
    rw [p1.bls] at h1
    exact ⟨a, ns, rfl, h1, q _ H G [] (Ext.refl s) (.p (.bl _))⟩
  · cases e
theorem cm_any : CM K (rAny K) anyT := by
  intro G H ts t xs e s r Q q
  unfold anyT at e
  split at e
  · simp only [Option.bind_eq_some_iff, Option.map_eq_some_iff] at e
    obtain ⟨ds, e1, ns, e2, rfl⟩ := e
    obtain ⟨v, F, rfl, h⟩ := r.one
    obtain ⟨a, vs, rfl, h1, p1⟩ := h.seq s e1
    rw [boolsOf_eq e2] at p1
    rw [p1.bls] at h1
    exact ⟨a, ns, rfl, h1, q _ H G [] (Ext.refl s) (.p (.bl _))⟩
  · cases e
def maxI : List Int → Option Int
  | [] => none
  | n :: r => some (r.foldl max n)
def minI : List Int → Option Int
  | [] => none
  | n :: r => some (r.foldl min n)
theorem foldl_max_mem : ∀ (r : List Int) (n : Int), r.foldl max n ∈ n :: r ∧ ∀ y ∈ n :: r, y ≤ r.foldl max n
  | [], n => ⟨by simp, fun y hy => by simp at hy; subst hy; exact Int.le_refl _⟩
  | k :: r, n => by
    obtain ⟨h1, h2⟩ := foldl_max_mem r (max n k)
    simp only [List.foldl_cons]
    refine ⟨?_, fun y hy => ?_⟩
    · rcases List.mem_cons.mp h1 with z | z
      · rw [z]
        rcases Int.le_total n k with h | h
        · rw [Int.max_eq_right h]; simp
        · rw [Int.max_eq_left h]; simp
      · exact List.mem_cons_of_mem _ (List.mem_cons_of_mem _ z)
    · have h3 := h2 (max n k) List.mem_cons_self
      rcases List.mem_cons.mp hy with z | z
      · subst z; exact Int.le_trans (Int.le_max_left _ _) h3
      · rcases List.mem_cons.mp z with z | z
        · subst z; exact Int.le_trans (Int.le_max_right _ _) h3
        · exact h2 y (List.mem_cons_of_mem _ z)
theorem foldl_min_mem : ∀ (r : List Int) (n : Int), r.foldl min n ∈ n :: r ∧ ∀ y ∈ n :: r, r.foldl min n ≤ y
  | [], n => ⟨by simp, fun y hy => by simp at hy; subst hy; exact Int.le_refl _⟩
  | k :: r, n => by
    obtain ⟨h1, h2⟩ := foldl_min_mem r (min n k)
    simp only [List.foldl_cons]
    refine ⟨?_, fun y hy => ?_⟩
    · rcases List.mem_cons.mp h1 with z | z
      · rw [z]
        rcases Int.le_total n k with h | h
        · rw [Int.min_eq_left h]; simp
        · rw [Int.min_eq_right h]; simp
      · exact List.mem_cons_of_mem _ (List.mem_cons_of_mem _ z)
    · have h3 := h2 (min n k) List.mem_cons_self
      rcases List.mem_cons.mp hy with z | z
      · subst z; exact Int.le_trans h3 (Int.min_le_left _ _)
      · rcases List.mem_cons.mp z with z | z
        · subst z; exact Int.le_trans h3 (Int.min_le_right _ _)
        · exact h2 y (List.mem_cons_of_mem _ z)
theorem maxI_spec {ns : List Int} {m : Int} (e : maxI ns = some m) : m ∈ ns ∧ ∀ y ∈ ns, y ≤ m := by
  cases ns with
  | nil => cases e
  | cons n r => cases e; exact foldl_max_mem r n
theorem minI_spec {ns : List Int} {m : Int} (e : minI ns = some m) : m ∈ ns ∧ ∀ y ∈ ns, m ≤ y := by
  cases ns with
  | nil => cases e
  | cons n r => cases e; exact foldl_min_mem r n
def maxT : List T → Option T
  | [t] => t.any?.bind fun ds => (intsOf ds).bind fun ns => (maxI ns).map fun m => .p (.int m)
  | [a, b] => a.int?.bind fun i => b.int?.map fun j => .p (.int (max i j))
  | _ => none
def minT : List T → Option T
  | [t] => t.any?.bind fun ds => (intsOf ds).bind fun ns => (minI ns).map fun m => .p (.int m)
  | [a, b] => a.int?.bind fun i => b.int?.map fun j => .p (.int (min i j))
  | _ => none
def rMaxT (K : PySem.W.Frag) : List V → Hp → VK → Prop := fun vs H Q => ∃ (a : Addr) (ns : List Int) (m : Int), vs = [V.ref a] ∧ SqT K H a (ns.map V.int) ∧ maxI ns = some m ∧ Q (.int m) H
def rMinT (K : PySem.W.Frag) : List V → Hp → VK → Prop := fun vs H Q => ∃ (a : Addr) (ns : List Int) (m : Int), vs = [V.ref a] ∧ SqT K H a (ns.map V.int) ∧ minI ns = some m ∧ Q (.int m) H
theorem reads_ints {h : Heap} : ∀ {ns : List Int} {us : List Value}, Vals (ns.map V.int) us → ReadsAll h us (ns.map PyData.int) []
  | [], _, .nil => .nil
  | n :: r, _, .cons h1 h2 => by
    obtain ⟨t, rfl⟩ := h1
    exact .cons (.int n t) (reads_ints h2)
theorem alike_ints (ns : List Int) : PySem.W.AlikeAll (ns.map PyData.int) := by
  refine ⟨fun x hx y hy => ?_, fun x hx => ?_⟩
  · obtain ⟨i, _, rfl⟩ := List.mem_map.mp hx
    obtain ⟨j, _, rfl⟩ := List.mem_map.mp hy
    rfl
  · obtain ⟨i, _, rfl⟩ := List.mem_map.mp hx
    intro z; cases z
theorem depth_ints : ∀ ns : List Int, PyData.depthAll (ns.map PyData.int) = 0
  | [] => by simp [PyData.depthAll]
  | n :: r => by simp [PyData.depthAll, PyData.depth, depth_ints r]
section
variable {X : Cx}
theorem cr_maxT (hc : X.calm = true) (hu : X.A.units + 64 < cLine) : CallR X (.builtin "max") (rMaxT X.K) := by
  intro pins s σ H vs us Q I r h
  obtain ⟨a, ns, m, rfl, hs, e, q⟩ := h
  cases ns with
  | nil => cases e
  | cons n ns =>
    obtain ⟨its, rv, hl, _⟩ := I.tuple hs
    obtain ⟨u, rfl, hu1⟩ := vals1 r
    cases hu1
    have hd := depth_ints (n :: ns)
    refine PySem.W.max_tuple_data (x := .int n) (xs := ns.map PyData.int) (as := []) (I.ok.hd hc) hl (by simpa using reads_ints (h := s.heap) rv) (alike_ints (n :: ns)) (by
      have : PyData.depthAll (PyData.int n :: ns.map PyData.int) = 0 := hd
      rw [this]; omega) fun i v h' tk bs hi hr hk => ?_
    rw [PySem.W.maxD_ints] at hr
    cases e
    cases hr
    exact ⟨.int _, H, I.kept hk, ⟨_, rfl⟩, q⟩
theorem cr_minT (hc : X.calm = true) (hu : X.A.units + 64 < cLine) : CallR X (.builtin "min") (rMinT X.K) := by
  intro pins s σ H vs us Q I r h
  obtain ⟨a, ns, m, rfl, hs, e, q⟩ := h
  cases ns with
  | nil => cases e
  | cons n ns =>
    obtain ⟨its, rv, hl, _⟩ := I.tuple hs
    obtain ⟨u, rfl, hu1⟩ := vals1 r
    cases hu1
    have hd := depth_ints (n :: ns)
    refine PySem.W.min_tuple_data (x := .int n) (xs := ns.map PyData.int) (as := []) (I.ok.hd hc) hl (by simpa using reads_ints (h := s.heap) rv) (alike_ints (n :: ns)) (by
      have : PyData.depthAll (PyData.int n :: ns.map PyData.int) = 0 := hd
      rw [this]; omega) fun i v h' tk bs hi hr hk => ?_
    rw [PySem.W.minD_ints] at hr
    cases e
    cases hr
    exact ⟨.int _, H, I.kept hk, ⟨_, rfl⟩, q⟩
end
def rMaxA (K : PySem.W.Frag) : List V → Hp → VK → Prop := fun xs H Q => (rMax K xs H Q ∨ rMaxT K xs H Q) ∨ ∃ i j, xs = [.int i, .int j] ∧ Q (.int (if j > i then j else i)) H
def rMinA (K : PySem.W.Frag) : List V → Hp → VK → Prop := fun xs H Q => (rMin K xs H Q ∨ rMinT K xs H Q) ∨ ∃ i j, xs = [.int i, .int j] ∧ Q (.int (if j < i then j else i)) H
theorem cr_maxA {X : Cx} (hc : X.calm = true) (hu : X.A.units + 64 < cLine) : CallR X (.builtin "max") (rMaxA X.K) := ((cr_max hc).or (cr_maxT hc hu)).or (call_max2 hc)
theorem cr_minA {X : Cx} (hc : X.calm = true) (hu : X.A.units + 64 < cLine) : CallR X (.builtin "min") (rMinA X.K) := ((cr_min hc).or (cr_minT hc hu)).or (call_min2 hc)
theorem TR.anyI {G H : Hp} {t : T} {v : V} {F : List Addr} (r : TR K G H t v F) (s : Same G H) {ds : List D} {ns : List Int} (e : t.any? = some ds) (e2 : intsOf ds = some ns) : ∃ a, v = .ref a ∧ (SqL K H a (ns.map V.int) ∨ SqT K H a (ns.map V.int)) := by
  obtain ⟨a, vs, rfl, h1, p1⟩ := r.any s e
  rw [intsOf_eq e2] at p1
  rw [p1.ints] at h1
  exact ⟨a, rfl, h1⟩
theorem cm_max : CM K (rMaxA K) maxT := by
  intro G H ts t xs e s r Q q
  unfold maxT at e
  split at e
  · simp only [Option.bind_eq_some_iff, Option.map_eq_some_iff] at e
    obtain ⟨ds, e1, ns, e2, m, e3, rfl⟩ := e
    obtain ⟨v, F, rfl, h⟩ := r.one
    obtain ⟨a, rfl, h1 | h1⟩ := h.anyI s e1 e2
    · obtain ⟨m1, m2⟩ := maxI_spec e3
      refine .inl (.inl ⟨a, ns, rfl, h1, List.length_pos_of_mem m1, fun m' p1 p2 => ?_⟩)
      have : m' = m := Int.le_antisymm (m2 _ p1) (p2 _ m1)
      subst this
      exact q _ H G [] (Ext.refl s) (.p (.int _))
    · exact .inl (.inr ⟨a, ns, m, rfl, h1, e3, q _ H G [] (Ext.refl s) (.p (.int _))⟩)
  · simp only [Option.bind_eq_some_iff, Option.map_eq_some_iff] at e
    obtain ⟨i, e1, j, e2, rfl⟩ := e
    obtain ⟨v, w, F, F', rfl, h1, h2⟩ := r.two
    rw [h1.int e1, h2.int e2]
    refine .inr ⟨i, j, rfl, ?_⟩
    have : (if j > i then j else i) = max i j := by
      rw [Int.max_def]
      split <;> split <;> omega
    rw [this]
    exact q _ H G [] (Ext.refl s) (.p (.int _))
  · cases e
theorem cm_min : CM K (rMinA K) minT := by
  intro G H ts t xs e s r Q q
  unfold minT at e
  split at e
  · simp only [Option.bind_eq_some_iff, Option.map_eq_some_iff] at e
    obtain ⟨ds, e1, ns, e2, m, e3, rfl⟩ := e
    obtain ⟨v, F, rfl, h⟩ := r.one
    obtain ⟨a, rfl, h1 | h1⟩ := h.anyI s e1 e2
    · obtain ⟨m1, m2⟩ := minI_spec e3
      refine .inl (.inl ⟨a, ns, rfl, h1, List.length_pos_of_mem m1, fun m' p1 p2 => ?_⟩)
      have : m' = m := Int.le_antisymm (p2 _ m1) (m2 _ p1)
      subst this
      exact q _ H G [] (Ext.refl s) (.p (.int _))
    · exact .inl (.inr ⟨a, ns, m, rfl, h1, e3, q _ H G [] (Ext.refl s) (.p (.int _))⟩)
  · simp only [Option.bind_eq_some_iff, Option.map_eq_some_iff] at e
    obtain ⟨i, e1, j, e2, rfl⟩ := e
    obtain ⟨v, w, F, F', rfl, h1, h2⟩ := r.two
    rw [h1.int e1, h2.int e2]
    refine .inr ⟨i, j, rfl, ?_⟩
    have : (if j < i then j else i) = min i j := by
      rw [Int.min_def]
      split <;> split <;> omega
    rw [this]
    exact q _ H G [] (Ext.refl s) (.p (.int _))
  · cases e
def absT : List T → Option T
  | [a] => a.int?.map fun i => .p (.int (if i < 0 then -i else i))
  | _ => none
theorem cm_abs : CM K (fun xs H Q => ∃ i, xs = [.int i] ∧ Q (.int (if i < 0 then -i else i)) H) absT := by
  intro G H ts t xs e s r Q q
  unfold absT at e
  split at e
  · rw [Option.map_eq_some_iff] at e
    obtain ⟨i, e1, rfl⟩ := e
    obtain ⟨v, F, rfl, h⟩ := r.one
    rw [h.int e1]
    exact ⟨i, rfl, q _ H G [] (Ext.refl s) (.p (.int _))⟩
  · cases e
/-! ### list, tuple, int, str, sorted -/
def listT : List T → Option T
  | [a] => a.any?.bind fun ds => some (.p (.list ds))
  | _ => none
theorem cm_list : CM K (fun xs H Q => ∃ p ys, xs = [.ref p] ∧ (SqL K H p ys ∨ SqT K H p ys) ∧ ∀ l, H l = none → Q (.ref l) (upd H l (.lst ys))) listT := by
  intro G H ts t xs e s r Q q
  unfold listT at e
  split at e
  · simp only [Option.bind_eq_some_iff] at e
    obtain ⟨ds, e1, e2⟩ := e
    cases e2
    obtain ⟨v, F, rfl, h⟩ := r.one
    obtain ⟨a, vs, rfl, h1, p1⟩ := h.any s e1
    refine ⟨a, vs, rfl, h1, fun l nl => ?_⟩
    have x2 := Ext.new (o := .lst vs) s nl
    exact q _ _ _ [] x2 (.p (.lst upd_same (p1.mono x2.gg)))
  · cases e
def tupleT : List T → Option T
  | [a] => match a.seq? with
    | some ds => some (.p (.tuple ds))
    | none => a.ptup?.bind fun ds => some (.p (.tuple ds))
  | _ => none
theorem cm_tuple : CM K (fun xs H Q => ∃ p ys, xs = [.ref p] ∧ ((SqL K H p ys ∧ ∀ l, H l = none → Q (.ref l) (upd H l (.tup ys))) ∨ (SqT K H p ys ∧ Q (.ref p) H))) tupleT := by
  intro G H ts t xs e s r Q q
  unfold tupleT at e
  split at e
  · split at e
    · rename_i ds e1
      cases e
      obtain ⟨v, F, rfl, h⟩ := r.one
      obtain ⟨a, vs, rfl, h1, p1⟩ := h.seq s e1
      refine ⟨a, vs, rfl, .inl ⟨h1, fun l nl => ?_⟩⟩
      have x2 := Ext.new (o := .tup vs) s nl
      exact q _ _ _ [] x2 (.p (.tup (.inl (.inl upd_same)) (p1.mono x2.gg)))
    · simp only [Option.bind_eq_some_iff] at e
      obtain ⟨ds, e1, e2⟩ := e
      cases e2
      obtain ⟨v, F, rfl, h⟩ := r.one
      obtain ⟨a, vs, rfl, h1, p1⟩ := h.ptup e1
      exact ⟨a, vs, rfl, .inr ⟨Same.seqT s h1, q _ H G [] (Ext.refl s) (.p (.tup h1 p1))⟩⟩
  · cases e
def intT : List T → Option T
  | [.p (.int i)] => some (.p (.int i))
  | [.p (.bool k)] => some (.p (.int (if k then 1 else 0)))
  | [.p (.str z)] => (PySem.intText? z).bind fun n => if z.length ≤ 640 then some (.p (.int n)) else none
  | _ => none
def rIntA : List V → Hp → VK → Prop := fun xs H Q => ((∃ i, xs = [.int i] ∧ Q (.int i) H) ∨ ∃ k, xs = [.bl k] ∧ Q (.int (if k then 1 else 0)) H) ∨ ∃ a n, xs = [.str a] ∧ PySem.intText? a = some n ∧ a.length ≤ 640 ∧ Q (.int n) H
theorem call_intA {X : Cx} : CallR X (.type "int") rIntA := call_int1.or call_int_str
theorem cm_int : CM K rIntA intT := by
  intro G H ts t xs e s r Q q
  unfold intT at e
  split at e
  · cases e
    obtain ⟨v, F, rfl, h⟩ := r.one
    cases h.pure
    exact .inl (.inl ⟨_, rfl, q _ H G [] (Ext.refl s) (.p (.int _))⟩)
  · cases e
    obtain ⟨v, F, rfl, h⟩ := r.one
    cases h.pure
    exact .inl (.inr ⟨_, rfl, q _ H G [] (Ext.refl s) (.p (.int _))⟩)
  · rw [Option.bind_eq_some_iff] at e
    obtain ⟨n, e1, e2⟩ := e
    split at e2
    · rename_i hz
      cases e2
      obtain ⟨v, F, rfl, h⟩ := r.one
      cases h.pure
      exact .inr ⟨_, n, rfl, e1, hz, q _ H G [] (Ext.refl s) (.p (.int _))⟩
    · cases e2
  · cases e
def strT : List T → Option T
  | [.p (.int i)] => if i.natAbs.log2 < 1920 then some (.p (.str (toString i))) else none
  | _ => none
theorem cm_str : CM K (fun xs H Q => ∃ i, xs = [.int i] ∧ i.natAbs.log2 < 1920 ∧ Q (.str (toString i)) H) strT := by
  intro G H ts t xs e s r Q q
  unfold strT at e
  split at e
  · split at e
    · rename_i hz
      cases e
      obtain ⟨v, F, rfl, h⟩ := r.one
      cases h.pure
      exact ⟨_, rfl, hz, q _ H G [] (Ext.refl s) (.p (.str _))⟩
    · cases e
  · cases e
def sortI (ns : List Int) : List Int := ns.mergeSort (fun a b => decide (a ≤ b))
theorem sortI_perm (ns : List Int) : (sortI ns).Perm ns := List.mergeSort_perm ns _
theorem sortI_pair (ns : List Int) : (sortI ns).Pairwise (· ≤ ·) := by
  have h := List.pairwise_mergeSort (le := fun a b : Int => decide (a ≤ b)) (fun a b c h1 h2 => by simp only [decide_eq_true_eq] at *; omega) (fun a b => by simp only [Bool.or_eq_true, decide_eq_true_eq]; omega) ns
  exact h.imp fun h => by simpa using h
def sortedT : List T → Option T
  | [t] => t.seq?.bind fun ds => (intsOf ds).map fun ns => .p (.list ((sortI ns).map PyData.int))
  | _ => none
theorem cm_sorted : CM K (rSortedI K) sortedT := by
  intro G H ts t xs e s r Q q
  unfold sortedT at e
  split at e
  · simp only [Option.bind_eq_some_iff, Option.map_eq_some_iff] at e
    obtain ⟨ds, e1, ns, e2, rfl⟩ := e
    obtain ⟨v, F, rfl, h⟩ := r.one
    obtain ⟨a, vs, rfl, h1, p1⟩ := h.seq s e1
    rw [intsOf_eq e2] at p1
    rw [p1.ints] at h1
    refine ⟨a, ns, rfl, h1, fun ns' p hp hs np => ?_⟩
    have : ns' = sortI ns := PySem.W.ksm_same (hp.trans (sortI_perm ns).symm) hs (sortI_pair ns)
    subst this
    have x2 := Ext.new (o := .lst ((sortI ns).map V.int)) s np
    exact q _ _ _ [] x2 (.p (.lst upd_same (Rps.of_ints _)))
  · cases e
end

/-! ### isinstance(e, T) -/
def tyN : D → String
  | .none => "NoneType"
  | .bool _ => "bool"
  | .int _ => "int"
  | .str _ => "str"
  | .list _ => "list"
  | .tuple _ => "tuple"
  | .dict _ => "dict"
def isi (a b : String) : Bool := a == b || (a == "bool" && b == "int")
def isiT (n : String) : T → Option T := fun t => t.snap.map fun d => .p (.bool (isi (tyN d) n))
def mIsi (n : String) (m : EM) : EM := fun env => (m env).bind (isiT n)
def IsiOk (n : String) : Prop := ∀ a ∈ ["NoneType", "bool", "int", "str", "list", "tuple", "dict"], kitB a n = some (isi a n)
theorem isi_bool : IsiOk "bool" := by unfold IsiOk; decide +kernel
theorem isi_int : IsiOk "int" := by unfold IsiOk; decide +kernel
theorem isi_list : IsiOk "list" := by unfold IsiOk; decide +kernel
theorem isi_tuple : IsiOk "tuple" := by unfold IsiOk; decide +kernel
theorem isi_str : IsiOk "str" := by unfold IsiOk; decide +kernel
theorem tyN_mem (d : D) : tyN d ∈ ["NoneType", "bool", "int", "str", "list", "tuple", "dict"] := by cases d <;> simp [tyN]
theorem Rp.ty {K : PySem.W.Frag} {H : Hp} {v : V} {d : D} (r : Rp K H v d) : TyX K H v (.type (tyN d)) := by
  cases r with
  | non => exact .base .non
  | bl b => exact .base (.bl b)
  | int i => exact .base (.int i)
  | str x => exact .base (.str x)
  | lst h _ => exact .base (.lst h)
  | tup h _ =>
    rcases h with (h | ⟨o, h⟩) | ⟨o, _, _, h, hc, _⟩
    · exact .base (.tup h)
    · exact .fTuple h
    · exact .kTuple h hc
  | dct h _ => exact .base (.dK h)
theorem pm_isi {X : Cx} {e : Expr} {me : EM} {y : Str} {n : String} {p p2 pos : Pos} (hg : Gl X "isinstance") (hm : X.mg "isinstance" = none) (hg2 : Gl X y) (hm2 : X.mg y = none) (hv : bootBuiltins y = some (.type n)) (ok : IsiOk n) (he : PM X e me)
    (hn : y ≠ "__name__" := by decide) (hdb : (y == ("__debug__" : Str)) = false := by decide) (hs : starEach [e, .Name y p2] X.env = (false, eval e X.env) :: starEach [.Name y p2] X.env := by rfl) :
    PM X (.Call (.Name "isinstance" p) [e, .Name y p2] [] pos) (mIsi n me) := by
  refine PE_imp (pe_callB call_isi hg hm boot_isinstance (pa_cons he (pa_cons (pe_bltn (v := .ty n) hg2 hm2 hv rfl hn hdb) pa_nil rfl) hs) (by decide) (by decide) hs rfl) fun σ H Q h => ?_
  obtain ⟨G, env, F, rel, t, e1, q⟩ := h
  simp only [mIsi, Option.bind_eq_some_iff] at e1
  obtain ⟨t1, e2, e3⟩ := e1
  simp only [isiT, Option.map_eq_some_iff] at e3
  obtain ⟨d, e4, rfl⟩ := e3
  refine ⟨G, env, F, rel, t1, e2, fun x H1 G1 F1 x1 r1 => ?_⟩
  exact ⟨x, .ty n, .type (tyN d), .type n, isi (tyN d) n, rfl, .ty n, (r1.live x1.gh e4).ty, kit_ty (ok _ (tyN_mem d)), q _ H1 G1 [] x1 (.p (.bl _))⟩

/-! ### slices -/
def cutL {α : Type} (xs : List α) (lo hi : Option Int) : List α := (xs.drop (HT.sIx xs.length 0 lo)).take (HT.sIx xs.length xs.length hi - HT.sIx xs.length 0 lo)
abbrev OM := En → Option (Option Int)
def oNone : OM := fun _ => some none
def oSome (m : EM) : OM := fun env => (m env).bind fun t => t.int?.map some
def sliceT (t : T) (lo hi : Option Int) : Option T := match t.seq? with
  | some ds => some (.p (.list (cutL ds lo hi)))
  | none => match t.ptup? with
    | some ds => some (.p (.tuple (cutL ds lo hi)))
    | none => match t with
      | .p (.str z) => if z.length ≤ LIM then some (.p (.str (cutS z lo hi))) else none
      | _ => none
def mSlice (m : EM) (lo hi : OM) : EM := fun env => (m env).bind fun t => (lo env).bind fun a => (hi env).bind fun b => sliceT t a b
theorem Rps.cut {K : PySem.W.Frag} {G : Hp} {vs : List V} {ds : List D} (r : Rps K G vs ds) (lo hi : Option Int) : Rps K G (cutV vs lo hi) (cutL ds lo hi) := by
  unfold cutV cutL
  rw [r.length]
  exact (r.drop _).take _
def rSlAll (K : PySem.W.Frag) : V → Option Int → Option Int → Hp → VK → Prop := fun x lo hi H Q => (rSlL K x lo hi H Q ∨ rSlA K x lo hi H Q) ∨ rSlS x lo hi H Q
theorem sl_all {X : Cx} : SlR X (rSlAll X.K) := (sl_list.or sl_tupA).or sl_str
def tOM (K : PySem.W.Frag) (m : OM) : TO := fun σ H Q => ∃ G env F, Rel K G H env σ F ∧ ∃ o, m env = some o ∧ ∀ H' G', Ext G H G' H' → Q o H'
theorem PO_imp {X : Cx} {e : Option Expr} {t t' : TO} (h : PO X e t) (i : ∀ σ H Q, t' σ H Q → t σ H Q) : PO X e t' := ⟨fun pins s σ H Q I q => h.run pins s σ H Q I (i σ H Q q)⟩
abbrev POM (X : Cx) (e : Option Expr) (m : OM) : Prop := PO X e (tOM X.K m)
section
variable {X : Cx} {e : Expr} {me : EM} {lo hi : Option Expr} {ml mh : OM} {pos p2 : Pos}
theorem pom_none : POM X none oNone := PO_imp po_none fun σ H Q h => by
  obtain ⟨G, env, F, rel, o, e1, q⟩ := h
  cases e1
  exact q H G (Ext.refl rel.sm)
theorem pom_some (h : PM X e me) : POM X (some e) (oSome me) := PO_imp (po_some h) fun σ H Q h => by
  obtain ⟨G, env, F, rel, o, e1, q⟩ := h
  simp only [oSome, Option.bind_eq_some_iff, Option.map_eq_some_iff] at e1
  obtain ⟨t, e2, i, e3, rfl⟩ := e1
  exact ⟨G, env, F, rel, t, e2, fun v H' G' F' x r => ⟨i, r.int e3, q H' G' x⟩⟩
theorem pm_slice (he : PM X e me) (hl : POM X lo ml) (hh : POM X hi mh) : PM X (.Subscript e (.Slice lo hi none p2) pos) (mSlice me ml mh) := by
  refine PE_imp (pe_slice sl_all he hl hh) fun σ H Q h => ?_
  obtain ⟨G, env, F, rel, t, e1, q⟩ := h
  simp only [mSlice, Option.bind_eq_some_iff] at e1
  obtain ⟨t1, e2, a, e3, b, e4, e5⟩ := e1
  refine ⟨G, env, F, rel, t1, e2, fun x H1 G1 F1 x1 r1 => ⟨G1, env, F, rel.ext x1, a, e3, fun H2 G2 x2 => ⟨G2, env, F, (rel.ext x1).ext x2, b, e4, fun H3 G3 x3 => ?_⟩⟩⟩
  have x23 := x2.trans x3
  have x13 := x1.trans x23
  have r3 := r1.keep x23.gg (Keep.of x23.hh)
  unfold sliceT at e5
  split at e5
  · rename_i ds e6
    cases e5
    obtain ⟨p, vs, rfl, h1, p1⟩ := r3.seq x3.gh e6
    refine .inl (.inl ⟨p, vs, rfl, h1, fun l nl => ?_⟩)
    have x4 := Ext.new (o := .lst (cutV vs a b)) x3.gh nl
    exact q _ _ _ [] (x13.trans x4) (.p (.lst upd_same ((p1.cut a b).mono x4.gg)))
  · split at e5
    · rename_i ds e6
      cases e5
      obtain ⟨p, vs, rfl, h1, p1⟩ := r3.ptup e6
      refine .inl (.inr ⟨p, vs, rfl, Same.seqT x3.gh h1, fun z => ?_, fun _ l nl => ?_⟩)
      · have e7 : cutL ds a b = ds := by
          unfold cutL
          rw [← p1.length, z.1, z.2, p1.length]
          simp
        rw [e7] at q
        exact q _ H3 G3 [] x13 (.p (.tup h1 p1))
      · have x4 := Ext.new (o := .tup (cutV vs a b)) x3.gh nl
        exact q _ _ _ [] (x13.trans x4) (.p (.tup (.inl (.inl upd_same)) ((p1.cut a b).mono x4.gg)))
    · split at e5
      · split at e5
        · rename_i hz
          cases e5
          cases r3.pure
          exact .inr ⟨_, rfl, Nat.le_trans hz LIM_line, q _ H3 G3 [] x13 (.p (.str _))⟩
        · cases e5
      · cases e5
/-- x[::-1] of a list -/
def mRev (m : EM) : EM := fun env => (m env).bind fun t => t.seq?.map fun ds => .p (.list ds.reverse)
theorem pm_rev {k : Nat} {p1 p3 : Pos} (he : PM X e me) : PM X (.Subscript e (.Slice none none (some (.UnaryOp .USub (.Constant (.int 1) k p1) p2)) p3) pos) (mRev me) := by
  refine PE_imp (pe_revL he) fun σ H Q h => ?_
  obtain ⟨G, env, F, rel, t, e1, q⟩ := h
  simp only [mRev, Option.bind_eq_some_iff, Option.map_eq_some_iff] at e1
  obtain ⟨t1, e2, ds, e3, rfl⟩ := e1
  refine ⟨G, env, F, rel, t1, e2, fun x H1 G1 F1 x1 r1 => ?_⟩
  obtain ⟨p, vs, rfl, h1, p1⟩ := r1.seq x1.gh e3
  refine ⟨p, vs, rfl, h1, fun l nl => ?_⟩
  have x4 := Ext.new (o := .lst vs.reverse) x1.gh nl
  exact q _ _ _ [] (x1.trans x4) (.p (.lst upd_same (p1.reverse.mono x4.gg)))
/-- -1 -/
def mNeg (m : EM) : EM := fun env => (m env).bind fun t => t.int?.map fun i => .p (.int (-i))
theorem pm_neg (he : PM X e me) : PM X (.UnaryOp .USub e pos) (mNeg me) := by
  refine PE_imp (pe_un un_neg he) fun σ H Q h => ?_
  obtain ⟨G, env, F, rel, t, e1, q⟩ := h
  simp only [mNeg, Option.bind_eq_some_iff, Option.map_eq_some_iff] at e1
  obtain ⟨t1, e2, i, e3, rfl⟩ := e1
  exact ⟨G, env, F, rel, t1, e2, fun x H1 G1 F1 x1 r1 => ⟨i, r1.int e3, q _ H1 G1 [] x1 (.p (.int _))⟩⟩
/-- list(range(n)), list(range(a, b)) -/
def rangeD (lo hi : Int) : List D := (List.range (hi - lo).toNat).map fun (k : Nat) => PyData.int (lo + (k : Int))
theorem Rps.rng {K : PySem.W.Frag} {G : Hp} (lo hi : Int) : Rps K G (rgV lo hi) (rangeD lo hi) := by
  unfold rgV rangeD
  generalize List.range (hi - lo).toNat = l
  induction l with
  | nil => exact .nil
  | cons k r ih => exact .cons (.int _) ih
def mListR1 (m : EM) : EM := fun env => (m env).bind fun t => t.int?.bind fun j => if j ≤ 1000000 ∧ -1000000 ≤ j then some (.p (.list (rangeD 0 j))) else none
def mListR2 (m m' : EM) : EM := fun env => (m env).bind fun t => t.int?.bind fun i => (m' env).bind fun u => u.int?.bind fun j => if (j ≤ 1000000 ∧ -1000000 ≤ j) ∧ (i ≤ 1000000 ∧ -1000000 ≤ i) then some (.p (.list (rangeD i j))) else none
theorem pm_listR1 {p p3 : Pos} (hc : X.calm = true) (hg : Gl X "list") (hm : X.mg "list" = none) (hg2 : Gl X "range") (hm2 : X.mg "range" = none) (he : PM X e me) (na : starEach [e] X.env = (false, eval e X.env) :: starEach [] X.env := by rfl) :
    PM X (.Call (.Name "list" p) [.Call (.Name "range" p2) [e] [] p3] [] pos) (mListR1 me) := by
  refine PE_imp (pe_listRg hc hg hm (prg_1 hg2 hm2 he na)) fun σ H Q h => ?_
  obtain ⟨G, env, F, rel, t, e1, q⟩ := h
  simp only [mListR1, Option.bind_eq_some_iff] at e1
  obtain ⟨t1, e2, j, e3, e4⟩ := e1
  split at e4
  · rename_i hz
    cases e4
    refine ⟨G, env, F, rel, t1, e2, fun x H1 G1 F1 x1 r1 => ?_⟩
    refine ⟨j, r1.int e3, ⟨by omega, by omega, by omega, by omega, by omega⟩, fun l nl => ?_⟩
    have x4 := Ext.new (o := .lst (rgV 0 j)) x1.gh nl
    exact q _ _ _ [] (x1.trans x4) (.p (.lst upd_same (Rps.rng 0 j)))
  · cases e4
end
end M
/-! M5: targets, what is walked, comprehensions. -/
namespace M
open PySem PySem.Spec PyProof.Rows L2

/-! ### targets -/
/-- σ' is σ but for the slots js -/
def Only (js : List Nat) (σ σ' : L2.St) : Prop := σ'.length = σ.length ∧ ∀ i, i ∉ js → σ'[i]? = σ[i]?
theorem Only.refl (js : List Nat) (σ : L2.St) : Only js σ σ := ⟨rfl, fun _ _ => rfl⟩
theorem Only.trans {js : List Nat} {a b c : L2.St} (x : Only js a b) (y : Only js b c) : Only js a c := ⟨y.1.trans x.1, fun i h => (y.2 i h).trans (x.2 i h)⟩
theorem Only.mono {js ks : List Nat} {a b : L2.St} (x : Only js a b) (h : ∀ j ∈ js, j ∈ ks) : Only ks a b := ⟨x.1, fun i hi => x.2 i fun z => hi (h i z)⟩
theorem Only.set {σ : L2.St} {i : Nat} {o : Option V} : Only [i] σ (σ.set i o) := ⟨List.length_set, fun j h => by
  rw [List.getElem?_set_ne]
  intro z
  exact h (by simp [z])⟩
theorem wipe_get (σ : L2.St) : ∀ (vs : List Nat) (i : Nat), (wipe σ vs)[i]? = if i ∈ vs then (if i < σ.length then some none else none) else σ[i]?
  | [], i => by simp [wipe]
  | v :: vs, i => by
    unfold wipe
    by_cases h : v = i
    · subst h
      rw [List.getElem?_set_self']
      rw [wipe_get σ vs v]
      simp only [List.mem_cons, true_or, if_true]
      by_cases hv : v < σ.length
      · rw [if_pos hv]
        split
        · rfl
        · rw [List.getElem?_eq_getElem hv]; rfl
      · rw [if_neg hv]
        split
        · rfl
        · rw [List.getElem?_eq_none (by omega)]; rfl
    · rw [List.getElem?_set_ne h, wipe_get σ vs i]
      have : (i ∈ v :: vs) ↔ i ∈ vs := by
        simp only [List.mem_cons]
        constructor
        · intro z
          rcases z with z | z
          · exact absurd z.symm h
          · exact z
        · exact .inr
      simp only [this]
theorem Only.wipe {js vs : List Nat} {a b : L2.St} (x : Only js a b) (h : ∀ j ∈ js, j ∈ vs) : L2.wipe b vs = L2.wipe a vs := by
  apply List.ext_getElem?
  intro i
  rw [wipe_get, wipe_get, x.1]
  by_cases hi : i ∈ vs
  · rw [if_pos hi, if_pos hi]
  · rw [if_neg hi, if_neg hi]
    exact x.2 i fun z => hi (h i z)
def wipeE (env : En) : List Nat → En
  | [] => env
  | v :: vs => (wipeE env vs).set v none
theorem ES.wipe {K : PySem.W.Frag} {G H : Hp} {env : En} {σ : L2.St} {F : List Addr} (r : ES K G H env σ F) : ∀ vs : List Nat, ∃ F', ES K G H (wipeE env vs) (L2.wipe σ vs) F' ∧ F'.Sublist F
  | [] => ⟨F, r, List.Sublist.refl _⟩
  | v :: vs => by
    obtain ⟨F1, h1, h2⟩ := ES.wipe r vs
    obtain ⟨F2, h3, h4⟩ := ES.drop v none h1
    exact ⟨F2, h3, h4.trans h2⟩
theorem Rel.wipe {K : PySem.W.Frag} {G H : Hp} {env : En} {σ : L2.St} {F : List Addr} (r : Rel K G H env σ F) (vs : List Nat) : ∃ F', Rel K G H (wipeE env vs) (L2.wipe σ vs) F' := by
  obtain ⟨F', h1, h2⟩ := r.es.wipe vs
  exact ⟨F', h1, r.nd.sublist h2, fun a ha => r.fr a (h2.subset ha), r.sm⟩
/-- a pure value is put into a slot -/
theorem Rel.putp {K : PySem.W.Frag} {G H : Hp} {env : En} {σ : L2.St} {F : List Addr} (r : Rel K G H env σ F) (i : Nat) {v : V} {d : D} (h : Rp K G v d) : ∃ F', Rel K G H (env.set i (some (.p d))) (σ.set i (some v)) F' ∧ ∀ a ∈ F', a ∈ F := by
  obtain ⟨F', h1, h2, h3⟩ := ES.put (TR.p (H := H) h) i r.es
  have h4 : ∀ a ∈ F', a ∈ F := fun a ha => (h2 a ha).elim (fun z => nomatch z) id
  exact ⟨F', ⟨h1, h3 r.nd .nil (fun _ z => nomatch z), fun a ha => r.fr a (h4 a ha), r.sm⟩, h4⟩

def gM (K : PySem.W.Frag) (js : List Nat) (g : D → En → Option En) : TG := fun v σ H Q => ∃ G env F d, Rel K G H env σ F ∧ Rp K G v d ∧ ∃ env', g d env = some env' ∧ ∀ σ' F', Rel K G H env' σ' F' → (∀ a ∈ F', a ∈ F) → Only js σ σ' → Q σ' H
abbrev GM (X : Cx) (tg : Expr) (js : List Nat) (g : D → En → Option En) : Prop := PG X tg (gM X.K js g)
def gsM (K : PySem.W.Frag) (js : List Nat) (g : List D → En → Option En) : TGs := fun vs σ H Q => ∃ G env F ds, Rel K G H env σ F ∧ Rps K G vs ds ∧ ∃ env', g ds env = some env' ∧ ∀ σ' F', Rel K G H env' σ' F' → (∀ a ∈ F', a ∈ F) → Only js σ σ' → Q σ' H
abbrev GsM (X : Cx) (tg : List Expr) (js : List Nat) (g : List D → En → Option En) : Prop := PGs X tg (gsM X.K js g)
theorem PG_imp {X : Cx} {e : Expr} {t t' : TG} (h : PG X e t) (i : ∀ v σ H Q, t' v σ H Q → t v σ H Q) : PG X e t' := ⟨fun pins s σ H v u Q I r q => h.run pins s σ H v u Q I r (i v σ H Q q)⟩
theorem PGs_imp {X : Cx} {e : List Expr} {t t' : TGs} (h : PGs X e t) (i : ∀ v σ H Q, t' v σ H Q → t v σ H Q) : PGs X e t' := ⟨fun pins s σ H v u Q I r q => h.run pins s σ H v u Q I r (i v σ H Q q)⟩
def gNm (i : Nat) : D → En → Option En := fun d env => some (env.set i (some (.p d)))
def gNl : List D → En → Option En
  | [], env => some env
  | _ :: _, _ => none
def gCn (g : D → En → Option En) (gs : List D → En → Option En) : List D → En → Option En
  | [], _ => none
  | d :: r, env => (g d env).bind fun e => gs r e
def gTp (gs : List D → En → Option En) : D → En → Option En
  | .tuple ds, env => gs ds env
  | _, _ => none
section
variable {X : Cx} {pos : Pos}
theorem gm_name {i : Nat} {x : Str} (hN : X.N.Nodup) (hi : X.N[i]? = some x := by rfl) (hx : Loc X.env.scope x := by first | exact Or.inl rfl | exact Or.inr rfl) (hf : X.fn x = true ∨ X.env.scope.names.lookup x = some .local := by first | exact .inl rfl | exact .inr rfl | assumption) : GM X (.Name x pos) [i] (gNm i) := by
  refine PG_imp (pg_name (i := i) hN hi hx hf) fun v σ H Q h => ?_
  obtain ⟨G, env, F, d, rel, r, env', e, q⟩ := h
  cases e
  obtain ⟨F', h1, h2⟩ := rel.putp i r
  exact q _ F' h1 h2 Only.set
theorem gsm_nil : GsM X [] [] gNl := by
  refine PGs_imp pgs_nil fun vs σ H Q h => ?_
  obtain ⟨G, env, F, ds, rel, r, env', e, q⟩ := h
  cases r with
  | nil => cases e; exact ⟨rfl, q _ F rel (fun _ z => z) (Only.refl _ _)⟩
  | cons _ _ => cases e
theorem gsm_cons {e : Expr} {es : List Expr} {js ks : List Nat} {g : D → En → Option En} {gs : List D → En → Option En} (h1 : GM X e js g) (h2 : GsM X es ks gs)
    (hs : (assignEach (e :: es) X.env).map (·.2) = assign e X.env :: (assignEach es X.env).map (·.2) := by rfl) : GsM X (e :: es) (js ++ ks) (gCn g gs) := by
  refine PGs_imp (pgs_cons h1 h2 hs) fun vs σ H Q h => ?_
  obtain ⟨G, env, F, ds, rel, r, env', e, q⟩ := h
  cases r with
  | nil => cases e
  | cons r1 r2 =>
    simp only [gCn, Option.bind_eq_some_iff] at e
    obtain ⟨e1, e2, e3⟩ := e
    refine ⟨_, _, rfl, G, env, F, _, rel, r1, e1, e2, fun σ1 F1 rel1 s1 o1 => ?_⟩
    exact ⟨G, e1, F1, _, rel1, r2, env', e3, fun σ2 F2 rel2 s2 o2 => q σ2 F2 rel2 (fun a ha => s1 a (s2 a ha)) ((o1.mono fun j hj => List.mem_append_left _ hj).trans (o2.mono fun j hj => List.mem_append_right _ hj))⟩
def GLen (gs : List D → En → Option En) (n : Nat) : Prop := ∀ ds env env', gs ds env = some env' → ds.length = n
theorem gl_nil : GLen gNl 0 := fun ds env env' h => by
  cases ds with
  | nil => rfl
  | cons _ _ => cases h
theorem gl_cons {g : D → En → Option En} {gs : List D → En → Option En} {n : Nat} (h : GLen gs n) : GLen (gCn g gs) (n + 1) := fun ds env env' e => by
  cases ds with
  | nil => cases e
  | cons d r =>
    simp only [gCn, Option.bind_eq_some_iff] at e
    obtain ⟨_, _, e⟩ := e
    rw [List.length_cons, h _ _ _ e]
theorem gm_tup {es : List Expr} {k n : Nat} {js : List Nat} {gs : List D → En → Option En} (hc : X.calm = true) (h : GsM X es js gs) (hl : GLen gs n) (hn : (assignEach es X.env).length = n := by rfl) (hst : (assignEach es X.env).findIdx? (·.1) = none := by rfl) : GM X (.Tuple es k pos) js (gTp gs) := by
  refine PG_imp (pg_tup hc h hn hst) fun v σ H Q h => ?_
  obtain ⟨G, env, F, d, rel, r, env', e, q⟩ := h
  cases r with
  | tup h1 h2 =>
    rename_i a xs ds
    exact ⟨a, xs, rfl, Same.seqT rel.sm h1, by rw [h2.length]; exact hl ds env env' e, G, env, F, ds, rel, h2, env', e, q⟩
  | _ => cases e
end

/-! ### what is walked -/
/-- .. its items frozen in G0 -/
structure Wk2 (K : PySem.W.Frag) (B G0 : Hp) (J : It) (ds : List D) : Prop where
  go : ∀ i H, Same B H → i < ds.length → J.go i H
  stop : ∀ i H, Same B H → ds.length ≤ i → J.stop i H
  yld : ∀ i H x H' G d, Same B H → Same G0 G → Same G H → J.yld i H x H' → ds[i]? = some d → ∃ G', Ext G H G' H' ∧ Rp K G' x d
/-- fz: the source is frozen -/
def iM (K : PySem.W.Frag) (fz : Bool) (mi : En → Option (List D)) : TI := fun σ H R => ∃ G env F, Rel K G H env σ F ∧ ∃ ds, mi env = some ds ∧ ∀ J H' G', Ext G H G' H' → Wk2 K (if fz then G' else H') G' J ds → R J H'
abbrev PIM (X : Cx) (tg iter : Expr) (fz : Bool) (mi : En → Option (List D)) : Prop := PI X tg iter (iM X.K fz mi)
theorem PI_imp {X : Cx} {tg e : Expr} {t t' : TI} (h : PI X tg e t) (i : ∀ σ H Q, t' σ H Q → t σ H Q) : PI X tg e t' := ⟨fun pins s σ H Q I q => h.run pins s σ H Q I (i σ H Q q)⟩
theorem PI_or {X : Cx} {tg e : Expr} {t t' : TI} (h : PI X tg e t) (h' : PI X tg e t') : PI X tg e (fun σ H R => t σ H R ∨ t' σ H R) := ⟨fun pins s σ H Q I q => by
  rcases q with q | q
  · exact h.run pins s σ H Q I q
  · exact h'.run pins s σ H Q I q⟩
section
variable {K : PySem.W.Frag} {B G0 : Hp}
theorem wk_list {a : Addr} {vs : List V} {ds : List D} (h : SqL K B a vs) (r : Rps K G0 vs ds) : Wk2 K B G0 (Itl K a) ds where
  go := fun i H s hi => by
    have hi' : i < vs.length := by rw [r.length]; exact hi
    exact ⟨vs, vs[i], s.seq h, by simp [hi']⟩
  stop := fun i H s hi => ⟨vs, s.seq h, by rw [r.length]; exact hi⟩
  yld := fun i H x H' G d s s0 sg y e => by
    obtain ⟨rfl, y⟩ := y
    obtain ⟨v, h1, h2⟩ := r.get e
    rw [y vs (s.seq h)] at h1
    cases h1
    exact ⟨G, Ext.refl sg, h2.mono s0⟩
theorem wk_tup {a : Addr} {vs : List V} {ds : List D} (h : SqT K B a vs) (r : Rps K G0 vs ds) : Wk2 K B G0 (Itt K a) ds where
  go := fun i H s hi => by
    have hi' : i < vs.length := by rw [r.length]; exact hi
    exact ⟨vs, vs[i], Same.seqT s h, by simp [hi']⟩
  stop := fun i H s hi => ⟨vs, Same.seqT s h, by rw [r.length]; exact hi⟩
  yld := fun i H x H' G d s s0 sg y e => by
    obtain ⟨rfl, y⟩ := y
    obtain ⟨v, h1, h2⟩ := r.get e
    rw [y vs (Same.seqT s h)] at h1
    cases h1
    exact ⟨G, Ext.refl sg, h2.mono s0⟩
theorem wk_range {lo : Int} {n : Nat} : Wk2 K B G0 (Itr lo n) ((List.range n).map fun (k : Nat) => PyData.int (lo + (k : Int))) where
  go := fun i H s hi => by
    have : i < n := by simpa using hi
    exact this
  stop := fun i H s hi => by
    have : n ≤ i := by simpa using hi
    exact this
  yld := fun i H x H' G d s s0 sg y e => by
    obtain ⟨rfl, rfl⟩ := y
    rw [List.getElem?_map] at e
    rw [Option.map_eq_some_iff] at e
    obtain ⟨k, e1, rfl⟩ := e
    have : k = i := by
      rw [List.getElem?_eq_some_iff] at e1
      obtain ⟨_, e2⟩ := e1
      simpa using e2.symm
    subst this
    exact ⟨G, Ext.refl sg, .int _⟩
end
section
variable {X : Cx} {tg : Expr} {e e2 : Expr} {me me2 : EM} {pos p : Pos}
/-- for x in e: a list, a tuple, the script; frozen -/
def T.fz? : T → Option (List D)
  | .p (.list ds) => some ds
  | .p (.tuple ds) => some ds
  | .sc ns => some (ns.map PyData.int)
  | _ => none
/-- a frozen list -/
def T.fzl? : T → Option (List D)
  | .p (.list ds) => some ds
  | .sc ns => some (ns.map PyData.int)
  | _ => none
theorem TR.fzl {K : PySem.W.Frag} {G H : Hp} {t : T} {v : V} {F : List Addr} (r : TR K G H t v F) {ds : List D} (e : t.fzl? = some ds) : ∃ a vs, v = .ref a ∧ SqL K G a vs ∧ Rps K G vs ds := by
  cases r with
  | p h =>
    cases h with
    | lst h r => simp [T.fzl?] at e; subst e; exact ⟨_, _, rfl, .inl (.inl h), r⟩
    | _ => simp [T.fzl?] at e
  | sc h => simp only [T.fzl?, Option.some.injEq] at e; subst e; exact ⟨_, _, rfl, h, Rps.of_ints _⟩
  | _ => simp [T.fzl?] at e
def iSeq (me : EM) : En → Option (List D) := fun env => (me env).bind T.fz?
def iSeqB (me : EM) : En → Option (List D) := fun env => (me env).bind T.any?
theorem pim_seq (he : PM X e me) : PIM X tg e true (iSeq me) := by
  refine PI_imp (PI_or (pi_list he) (pi_tup he)) fun σ H R h => ?_
  obtain ⟨G, env, F, rel, ds, e1, q⟩ := h
  simp only [iSeq, Option.bind_eq_some_iff] at e1
  obtain ⟨t, e2, e3⟩ := e1
  cases t with
  | p d =>
    cases d with
    | list ds' =>
      simp only [T.fz?, Option.some.injEq] at e3; subst e3
      refine .inl ⟨G, env, F, rel, _, e2, fun v H' G' F' x r => ?_⟩
      cases r.pure with
      | lst h1 h2 => exact ⟨_, rfl, ⟨_, .inl (.inl (x.gh _ _ h1))⟩, q _ H' G' x (wk_list (.inl (.inl h1)) h2)⟩
    | tuple ds' =>
      simp only [T.fz?, Option.some.injEq] at e3; subst e3
      refine .inr ⟨G, env, F, rel, _, e2, fun v H' G' F' x r => ?_⟩
      cases r.pure with
      | tup h1 h2 => exact ⟨_, rfl, ⟨_, Same.seqT x.gh h1⟩, q _ H' G' x (wk_tup h1 h2)⟩
    | _ => simp [T.fz?] at e3
  | sc ns =>
    simp only [T.fz?, Option.some.injEq] at e3; subst e3
    refine .inl ⟨G, env, F, rel, _, e2, fun v H' G' F' x r => ?_⟩
    cases r with
    | sc h1 => exact ⟨_, rfl, ⟨_, x.gh.seq h1⟩, q _ H' G' x (wk_list h1 (Rps.of_ints ns))⟩
  | _ => simp [T.fz?] at e3
/-- .. borrowed: a comprehension's -/
theorem pim_seqB (he : PM X e me) : PIM X tg e false (iSeqB me) := by
  refine PI_imp (PI_or (pi_list he) (pi_tup he)) fun σ H R h => ?_
  obtain ⟨G, env, F, rel, ds, e1, q⟩ := h
  simp only [iSeqB, Option.bind_eq_some_iff] at e1
  obtain ⟨t, e2, e3⟩ := e1
  unfold T.any? at e3
  split at e3
  · rename_i e4
    cases e3
    refine .inl ⟨G, env, F, rel, _, e2, fun v H' G' F' x r => ?_⟩
    obtain ⟨a, vs, rfl, h1, p1⟩ := r.seq x.gh e4
    exact ⟨_, rfl, ⟨_, h1⟩, q _ H' G' x (wk_list h1 p1)⟩
  · refine .inr ⟨G, env, F, rel, _, e2, fun v H' G' F' x r => ?_⟩
    obtain ⟨a, vs, rfl, h1, p1⟩ := r.tup x.gh e3
    exact ⟨_, rfl, ⟨_, h1⟩, q _ H' G' x (wk_tup h1 p1)⟩
def smallI (j : Int) : Prop := -1000000 ≤ j ∧ j ≤ 1000000
instance (j : Int) : Decidable (smallI j) := inferInstanceAs (Decidable (_ ∧ _))
def iRng1 (me : EM) : En → Option (List D) := fun env => (me env).bind fun t => t.int?.bind fun j => if smallI j then some (rangeD 0 j) else none
def iRng2 (me me2 : EM) : En → Option (List D) := fun env => (me env).bind fun t => t.int?.bind fun i => (me2 env).bind fun u => u.int?.bind fun j => if smallI i ∧ smallI j then some (rangeD i j) else none
theorem pim_range1 {fz : Bool} (hg : Gl X "range") (hm : X.mg "range" = none) (he : PM X e me) (hs : starEach [e] X.env = [(false, eval e X.env)] := by rfl) : PIM X tg (.Call (.Name "range" p) [e] [] pos) fz (M.iRng1 me) := by
  refine PI_imp (pi_range1 hg hm (pam_cons he pam_nil hs) hs) fun σ H R h => ?_
  obtain ⟨G, env, F, rel, ds, e1, q⟩ := h
  simp only [M.iRng1, Option.bind_eq_some_iff] at e1
  obtain ⟨t, e2, j, e3, e4⟩ := e1
  split at e4
  · rename_i hz
    cases e4
    refine ⟨G, env, F, rel, [t], by simp [aCons, aNil, e2], fun vs H' G' x r => ?_⟩
    obtain ⟨v, F', rfl, h⟩ := r.one
    rw [h.int e3]
    unfold smallI at hz
    refine ⟨j, rfl, by omega, by omega, q _ H' G' x ?_⟩
    have := wk_range (K := X.K) (B := if fz then G' else H') (G0 := G') (lo := 0) (n := j.toNat)
    unfold rangeD
    rw [Int.sub_zero]
    exact this
  · cases e4
theorem pim_range2 {fz : Bool} (hg : Gl X "range") (hm : X.mg "range" = none) (he : PM X e me) (he2 : PM X e2 me2) (hs : starEach [e, e2] X.env = [(false, eval e X.env), (false, eval e2 X.env)] := by rfl) (hs2 : starEach [e2] X.env = [(false, eval e2 X.env)] := by rfl) :
    PIM X tg (.Call (.Name "range" p) [e, e2] [] pos) fz (M.iRng2 me me2) := by
  refine PI_imp (pi_range2 hg hm (pam_cons he (pam_cons he2 pam_nil hs2) (by rw [hs, hs2])) hs hs2) fun σ H R h => ?_
  obtain ⟨G, env, F, rel, ds, e1, q⟩ := h
  simp only [M.iRng2, Option.bind_eq_some_iff] at e1
  obtain ⟨t, e2, i, e3, u, e4, j, e5, e6⟩ := e1
  split at e6
  · rename_i hz
    cases e6
    refine ⟨G, env, F, rel, [t, u], by simp [aCons, aNil, e2, e4], fun vs H' G' x r => ?_⟩
    obtain ⟨v, w, F', F2, rfl, h, h'⟩ := r.two
    rw [h.int e3, h'.int e5]
    unfold smallI at hz
    exact ⟨i, j, rfl, ⟨by omega, by omega, by omega, by omega⟩, q _ H' G' x wk_range⟩
  · cases e6
/-- zip of two -/
def zipD : List D → List D → List D
  | a :: r, b :: t => .tuple [a, b] :: zipD r t
  | _, _ => []
theorem zipD_get : ∀ {xs ys : List D} {i : Nat} {d : D}, (zipD xs ys)[i]? = some d → ∃ a b, xs[i]? = some a ∧ ys[i]? = some b ∧ d = .tuple [a, b]
  | [], _, _, _, e => by simp [zipD] at e
  | _ :: _, [], _, _, e => by simp [zipD] at e
  | a :: r, b :: t, 0, d, e => by simp [zipD] at e; exact ⟨a, b, rfl, rfl, e.symm⟩
  | a :: r, b :: t, i + 1, d, e => by
    obtain ⟨x, y, h1, h2, h3⟩ := zipD_get (xs := r) (ys := t) (i := i) (d := d) (by simpa [zipD] using e)
    exact ⟨x, y, by simpa using h1, by simpa using h2, h3⟩
theorem zipD_length : ∀ (xs ys : List D), (zipD xs ys).length = min xs.length ys.length
  | [], _ => by simp [zipD]
  | _ :: _, [] => by simp [zipD]
  | a :: r, b :: t => by simp [zipD, zipD_length r t]
def iZp (me me2 : EM) : En → Option (List D) := fun env => (me env).bind fun t => (me2 env).bind fun u => match t.fzl?, u.fzl? with
  | some xs, some ys => some (zipD xs ys)
  | _, _ => match t.ptup?, u.ptup? with
    | some xs, some ys => some (zipD xs ys)
    | _, _ => none
theorem wk_zip {K : PySem.W.Frag} {B G0 : Hp} {a b : Addr} {vs ws : List V} {xs ys : List D} (h1 : SqL K B a vs) (h2 : SqL K B b ws) (r1 : Rps K G0 vs xs) (r2 : Rps K G0 ws ys) : Wk2 K B G0 (Itz K a b) (zipD xs ys) where
  go := fun i H s hi => by
    rw [zipD_length] at hi
    have l1 := r1.length
    have l2 := r2.length
    exact ⟨vs, ws, vs[i], ws[i], s.seq h1, s.seq h2, by simp, by simp⟩
  stop := fun i H s hi => by
    rw [zipD_length] at hi
    have l1 := r1.length
    have l2 := r2.length
    exact ⟨vs, ws, s.seq h1, s.seq h2, by omega⟩
  yld := fun i H x H' G d s s0 sg y e => by
    obtain ⟨T, u, w, rfl, nT, rfl, y1, y2⟩ := y
    obtain ⟨d1, d2, e1, e2, rfl⟩ := zipD_get e
    obtain ⟨v1, g1, p1⟩ := r1.get e1
    obtain ⟨v2, g2, p2⟩ := r2.get e2
    rw [y1 vs (s.seq h1)] at g1
    rw [y2 ws (s.seq h2)] at g2
    cases g1
    cases g2
    have x2 := Ext.new (o := .tup [u, w]) sg nT
    exact ⟨_, x2, .tup (.inl (.inl upd_same)) (.cons ((p1.mono s0).mono x2.gg) (.cons ((p2.mono s0).mono x2.gg) .nil))⟩
theorem wk_zipT {K : PySem.W.Frag} {B G0 : Hp} {a b : Addr} {vs ws : List V} {xs ys : List D} (h1 : SqT K B a vs) (h2 : SqT K B b ws) (r1 : Rps K G0 vs xs) (r2 : Rps K G0 ws ys) : Wk2 K B G0 (RZ.ItzT K a b) (zipD xs ys) where
  go := fun i H s hi => by
    rw [zipD_length] at hi
    have l1 := r1.length
    have l2 := r2.length
    exact ⟨vs, ws, vs[i], ws[i], Same.seqT s h1, Same.seqT s h2, by simp, by simp⟩
  stop := fun i H s hi => by
    rw [zipD_length] at hi
    have l1 := r1.length
    have l2 := r2.length
    exact ⟨vs, ws, Same.seqT s h1, Same.seqT s h2, by omega⟩
  yld := fun i H x H' G d s s0 sg y e => by
    obtain ⟨T, u, w, rfl, nT, rfl, y1, y2⟩ := y
    obtain ⟨d1, d2, e1, e2, rfl⟩ := zipD_get e
    obtain ⟨v1, g1, p1⟩ := r1.get e1
    obtain ⟨v2, g2, p2⟩ := r2.get e2
    rw [y1 vs (Same.seqT s h1)] at g1
    rw [y2 ws (Same.seqT s h2)] at g2
    cases g1
    cases g2
    have x2 := Ext.new (o := .tup [u, w]) sg nT
    exact ⟨_, x2, .tup (.inl (.inl upd_same)) (.cons ((p1.mono s0).mono x2.gg) (.cons ((p2.mono s0).mono x2.gg) .nil))⟩
theorem pim_zip {elts : List Expr} {kk : Nat} {tpos : Pos} (hg : Gl X "zip") (hm : X.mg "zip" = none) (he : PM X e me) (he2 : PM X e2 me2) (hs : starEach [e, e2] X.env = (false, eval e X.env) :: starEach [e2] X.env := by rfl)
    (hs2 : starEach [e2] X.env = (false, eval e2 X.env) :: starEach [] X.env := by rfl) (hpl : (backTo pos (starEach [e2] X.env)).any (·.1) = false := by rfl) :
    PIM X (.Tuple elts kk tpos) (.Call (.Name "zip" p) [e, e2] [] pos) true (iZp me me2) := by
  refine PI_imp (RZ.pi_zipA hg hm (pam_cons he (pam_cons he2 pam_nil hs2) hs) hs hpl) fun σ H R h => ?_
  obtain ⟨G, env, F, rel, ds, e1, q⟩ := h
  simp only [iZp, Option.bind_eq_some_iff] at e1
  obtain ⟨t, e2, u, e3, e4⟩ := e1
  refine ⟨G, env, F, rel, [t, u], by simp [aCons, aNil, e2, e3], fun vs H' G' x r => ?_⟩
  obtain ⟨v, w, F', F2, rfl, h, h'⟩ := r.two
  split at e4
  · rename_i xs ys e5 e6
    cases e4
    obtain ⟨a, vs, rfl, h1, p1⟩ := h.fzl e5
    obtain ⟨b, ws, rfl, h2, p2⟩ := h'.fzl e6
    exact ⟨a, b, vs, ws, rfl, .inl ⟨x.gh.seq h1, x.gh.seq h2, q _ H' G' x (wk_zip h1 h2 p1 p2)⟩⟩
  · split at e4
    · rename_i xs ys e5 e6
      cases e4
      obtain ⟨a, vs, rfl, h1, p1⟩ := h.ptup e5
      obtain ⟨b, ws, rfl, h2, p2⟩ := h'.ptup e6
      exact ⟨a, b, vs, ws, rfl, .inr ⟨Same.seqT x.gh h1, Same.seqT x.gh h2, q _ H' G' x (wk_zipT h1 h2 p1 p2)⟩⟩
    · cases e4
/-- enumerate -/
def enumD (k : Nat) : List D → List D
  | [] => []
  | d :: r => .tuple [.int (k : Nat), d] :: enumD (k + 1) r
theorem enumD_length : ∀ (k : Nat) (xs : List D), (enumD k xs).length = xs.length
  | _, [] => rfl
  | k, _ :: r => by simp [enumD, enumD_length (k + 1) r]
theorem enumD_get : ∀ {k : Nat} {xs : List D} {i : Nat} {d : D}, (enumD k xs)[i]? = some d → ∃ a, xs[i]? = some a ∧ d = .tuple [.int ((k + i : Nat) : Int), a]
  | _, [], _, _, e => by simp [enumD] at e
  | k, a :: r, 0, d, e => by simp [enumD] at e; exact ⟨a, rfl, by simp [e.symm]⟩
  | k, a :: r, i + 1, d, e => by
    obtain ⟨x, h1, h2⟩ := enumD_get (k := k + 1) (xs := r) (i := i) (d := d) (by simpa [enumD] using e)
    exact ⟨x, by simpa using h1, by rw [h2]; simp; omega⟩
def iEn (me : EM) : En → Option (List D) := fun env => (me env).bind fun t => t.fzl?.map fun xs => enumD 0 xs
theorem wk_enum {K : PySem.W.Frag} {B G0 : Hp} {a : Addr} {vs : List V} {xs : List D} (h1 : SqL K B a vs) (r1 : Rps K G0 vs xs) : Wk2 K B G0 (Ite K a) (enumD 0 xs) where
  go := fun i H s hi => by
    rw [enumD_length] at hi
    have l1 := r1.length
    exact ⟨vs, vs[i], s.seq h1, by simp⟩
  stop := fun i H s hi => by
    rw [enumD_length] at hi
    have l1 := r1.length
    exact ⟨vs, s.seq h1, by omega⟩
  yld := fun i H x H' G d s s0 sg y e => by
    obtain ⟨T, u, rfl, nT, rfl, y1⟩ := y
    obtain ⟨d1, e1, rfl⟩ := enumD_get e
    obtain ⟨v1, g1, p1⟩ := r1.get e1
    rw [y1 vs (s.seq h1)] at g1
    cases g1
    have x2 := Ext.new (o := .tup [.int (i : Nat), u]) sg nT
    refine ⟨_, x2, .tup (.inl (.inl upd_same)) (.cons ?_ (.cons ((p1.mono s0).mono x2.gg) .nil))⟩
    rw [Nat.zero_add]
    exact .int _
theorem pim_enum {elts : List Expr} {kk : Nat} {tpos : Pos} (hg : Gl X "enumerate") (hm : X.mg "enumerate" = none) (he : PM X e me) (hs : starEach [e] X.env = [(false, eval e X.env)] := by rfl) :
    PIM X (.Tuple elts kk tpos) (.Call (.Name "enumerate" p) [e] [] pos) true (iEn me) := by
  refine PI_imp (pi_enum hg hm (pam_cons he pam_nil hs) hs) fun σ H R h => ?_
  obtain ⟨G, env, F, rel, ds, e1, q⟩ := h
  simp only [iEn, Option.bind_eq_some_iff, Option.map_eq_some_iff] at e1
  obtain ⟨t, e2, xs, e3, rfl⟩ := e1
  refine ⟨G, env, F, rel, [t], by simp [aCons, aNil, e2], fun vs H' G' x r => ?_⟩
  obtain ⟨v, F', rfl, h⟩ := r.one
  obtain ⟨a, vs, rfl, h1, p1⟩ := h.fzl e3
  exact ⟨a, vs, rfl, x.gh.seq h1, q _ H' G' x (wk_enum h1 p1)⟩
end

/-! ### comprehensions -/
def lcRun (g : D → En → Option En) (tt : En → Option Bool) (me : EM) (env : En) : List D → Option (List D)
  | [] => some []
  | d :: r => (g d env).bind fun e => (tt e).bind fun b => if b then (me e).bind fun t => t.pure?.bind fun y => (lcRun g tt me env r).map fun ys => y :: ys else lcRun g tt me env r
def mLc (mi : En → Option (List D)) (vs : List Nat) (g : D → En → Option En) (tt : En → Option Bool) (me : EM) : EM := fun env => (mi env).bind fun ds => (lcRun g tt me (wipeE env vs) ds).bind fun out => if out.length ≤ LIM then some (.p (.list out)) else none
def bYes : En → Option Bool := fun _ => some true
def tTsM := tTM
abbrev PTsM (X : Cx) (ifs : List Expr) (m : En → Option Bool) : Prop := PTs X ifs (tTM X.K m)
theorem PTs_imp {X : Cx} {e : List Expr} {t t' : TT} (h : PTs X e t) (i : ∀ σ H Q, t' σ H Q → t σ H Q) : PTs X e t' := ⟨fun pins s σ H Q I q => h.run pins s σ H Q I (i σ H Q q)⟩
theorem ptsm_nil {X : Cx} : PTsM X [] bYes := PTs_imp pts_nil fun σ H Q h => by
  obtain ⟨G, env, F, rel, b, e, q⟩ := h
  cases e
  exact q H G (Ext.refl rel.sm)
theorem ptsm_one {X : Cx} {c : Expr} {m : En → Option Bool} (h : PTM X c m) : PTsM X [c] m := pts_one h
/-- the reading of a comprehension whose element is pure -/
theorem lcM {K : PySem.W.Frag} {fz : Bool} {mi : En → Option (List D)} {js vs : List Nat} {g : D → En → Option En} {tt : En → Option Bool} {me : EM} (hj : ∀ j ∈ js, j ∈ vs) {σ : L2.St} {H : Hp} {Q : VK}
    (h : ∃ G env F, Rel K G H env σ F ∧ ∃ ds out, mi env = some ds ∧ lcRun g tt me (wipeE env vs) ds = some out ∧ out.length ≤ LIM ∧
      ∀ p vs' H' G', Ext G H G' H' → H p = none → G' p = none → H' p = some (.lst vs') → Rps K G' vs' out → Q (.ref p) H') :
    tLc (iM K fz mi) (gM K js g) (tTM K tt) (tM K me) vs σ H Q := by
  obtain ⟨G, env, F, rel, ds, out, e1, e2, hz, q⟩ := h
  refine ⟨G, env, F, rel, ds, e1, fun J H1 G1 x1 wk => fun D nD => ?_⟩
  refine ⟨fun i m H2 => m = ds.length - i ∧ i ≤ ds.length ∧ ∃ G2 acc o1 o2, Ext G1 H1 G2 H2 ∧ G2 D = none ∧ H2 D = some (.lst acc) ∧ Rps K G2 acc o1 ∧ lcRun g tt me (wipeE env vs) (ds.drop i) = some o2 ∧ out = o1 ++ o2, ?_, ?_⟩
  · refine ⟨ds.length, rfl, Nat.zero_le _, G1, [], [], out, Ext.fresh x1.gh nD, x1.gh.free nD, upd_same, .nil, by simpa using e2, rfl⟩
  · rintro i m H2 ⟨rfl, hi, G2, acc, o1, o2, x2, gD, hD, ra, e3, eo⟩
    have sB : Same (if fz then G1 else H1) H2 := by
      cases fz with
      | true => exact x2.gg.trans x2.gh
      | false => exact x2.hh
    by_cases hlt : i < ds.length
    · have ed : ds.drop i = ds[i] :: ds.drop (i + 1) := List.drop_eq_getElem_cons hlt
      rw [ed] at e3
      simp only [lcRun, Option.bind_eq_some_iff] at e3
      obtain ⟨env1, e4, b, e5, e6⟩ := e3
      refine .inr ⟨wk.go i H2 sB hlt, fun H' => (i + 1 ≤ ds.length ∧ ∃ G2 acc o1 o2, Ext G1 H1 G2 H' ∧ G2 D = none ∧ H' D = some (.lst acc) ∧ Rps K G2 acc o1 ∧ lcRun g tt me (wipeE env vs) (ds.drop (i + 1)) = some o2 ∧ out = o1 ++ o2), fun H' w => ⟨ds.length - (i + 1), by omega, rfl, w.1, w.2⟩, fun x H3 y => ?_⟩
      obtain ⟨G3, x3, rd⟩ := wk.yld i H2 x H3 G2 ds[i] sB x2.gg x2.gh y (List.getElem?_eq_getElem hlt)
      have gD3 : ∀ {Ga Ha Gb Hb : Hp}, Ext Ga Ha Gb Hb → Ga D = none → Ha D ≠ none → Gb D = none := fun {Ga Ha Gb Hb} x g h => by
        cases z : Gb D with
        | none => rfl
        | some o =>
          rcases x.fr D (by rw [z]; exact Option.some_ne_none o) with w | w
          · exact absurd g w
          · exact absurd w h
      have rel3 := (rel.ext x1).ext (x2.trans x3)
      obtain ⟨Fw, relw⟩ := rel3.wipe vs
      refine ⟨G3, wipeE env vs, Fw, ds[i], relw, rd, env1, e4, fun σ2 F2 rel4 _ ou => ⟨ou.wipe hj |>.trans ?_, ?_⟩⟩
      · have : Only [] (L2.wipe σ vs) (L2.wipe σ vs) := Only.refl _ _
        apply List.ext_getElem?
        intro k
        rw [wipe_get, wipe_get]
        by_cases hk : k ∈ vs
        · rw [if_pos hk, if_pos hk, wipe_length]
        · rw [if_neg hk, if_neg hk]
      · refine ⟨G3, env1, F2, rel4, b, e5, fun H4 G4 x4 => ?_⟩
        have hD3 : H3 D = some (.lst acc) := x3.hh _ _ hD
        have g3 : G3 D = none := gD3 x3 gD (by rw [hD]; exact Option.some_ne_none _)
        have g4 : G4 D = none := gD3 x4 g3 (by rw [hD3]; exact Option.some_ne_none _)
        have hD4 : H4 D = some (.lst acc) := x4.hh _ _ hD3
        cases b with
        | false =>
          rw [if_neg Bool.false_ne_true] at e6
          refine iteF ?_
          exact ⟨hlt, G4, acc, o1, o2, (x2.trans x3).trans x4, g4, hD4, (ra.mono x3.gg).mono x4.gg, e6, eo⟩
        | true =>
          rw [if_pos rfl] at e6
          simp only [Option.bind_eq_some_iff, Option.map_eq_some_iff] at e6
          obtain ⟨t, e7, yd, e8, ys, e9, rfl⟩ := e6
          refine iteT ?_
          refine ⟨G4, env1, F2, rel4.ext x4, t, e7, fun v H5 G5 F5 x5 r5 => ?_⟩
          have hD5 : H5 D = some (.lst acc) := x5.hh _ _ hD4
          have g5 : G5 D = none := gD3 x5 g4 (by rw [hD4]; exact Option.some_ne_none _)
          have x25 := ((x2.trans x3).trans x4).trans x5
          have ra5 : Rps K G5 acc o1 := ((ra.mono x3.gg).mono x4.gg).mono x5.gg
          refine ⟨acc, hD5, ?_, hlt, G5, acc ++ [v], o1 ++ [yd], ys, ⟨x25.gg, fun a o z => ?_, fun a o z => ?_, x25.fr⟩, g5, upd_same, ra5.append (.one (r5.of_pure? e8)), e9, by rw [eo, List.append_assoc]; rfl⟩
          · have l1 := ra5.length
            rw [eo] at hz
            simp only [List.length_append, List.length_cons] at hz
            have := LIM_line
            omega
          · have : a ≠ D := ne_of_none z nD
            rw [upd_ne this]
            exact x25.hh a o z
          · have : a ≠ D := ne_of_none z g5
            rw [upd_ne this]
            exact x25.gh a o z
    · have hi' : i = ds.length := by omega
      subst hi'
      rw [List.drop_length] at e3
      cases e3
      rw [List.append_nil] at eo
      subst eo
      exact .inl ⟨wk.stop _ H2 sB (Nat.le_refl _), q D acc H2 G2 (x1.trans x2) (x1.hh.free nD) gD hD ra⟩
section
variable {X : Cx}
theorem tLcM {K : PySem.W.Frag} {fz : Bool} {mi : En → Option (List D)} {js vs : List Nat} {g : D → En → Option En} {tt : En → Option Bool} {me : EM} (hj : ∀ j ∈ js, j ∈ vs) {σ : L2.St} {H : Hp} {Q : VK} (h : tM K (mLc mi vs g tt me) σ H Q) :
    tLc (iM K fz mi) (gM K js g) (tTM K tt) (tM K me) vs σ H Q := by
  obtain ⟨G, env, F, rel, t, e, q⟩ := h
  simp only [mLc, Option.bind_eq_some_iff] at e
  obtain ⟨ds, e1, out, e2, e3⟩ := e
  split at e3
  · rename_i hz
    cases e3
    refine lcM hj ⟨G, env, F, rel, ds, out, e1, e2, hz, fun p vs' H' G' x hp gp h1 h2 => ?_⟩
    refine q _ H' (upd G' p (.lst vs')) [] ⟨x.gg.trans (same_upd gp), x.hh, fun a o z => ?_, fun a z => ?_⟩ (.p (.lst upd_same (h2.mono (same_upd gp))))
    · by_cases hap : a = p
      · subst hap; rw [upd_same] at z; cases z; exact h1
      · rw [upd_ne hap] at z; exact x.gh a o z
    · by_cases hap : a = p
      · subst hap; exact .inr hp
      · rw [upd_ne hap] at z; exact x.fr a z
  · cases e3
theorem pm_lc {elt tg iter : Expr} {ifs : List Expr} {scope : Scope} {own : List (Str × Nat)} {pos : Pos} {fz : Bool} {mi : En → Option (List D)} {js : List Nat} {g : D → En → Option En} {tt : En → Option Bool} {me : EM} (hc : X.calm = true) (hN : X.N.Nodup) (hi : PIM X tg iter fz mi) (ok : BlkOk X.N X.env.scope scope own)
    (hg : ∀ (s : Shared) (H : Hp) (C : Addr) (cl : List (Str × Addr)) (fp : List Addr), GM (X.blk s H scope (compEnvC scope cl C X.env) fp) tg js g) (ht : ∀ (s : Shared) (H : Hp) (C : Addr) (cl : List (Str × Addr)) (fp : List Addr), PTsM (X.blk s H scope (compEnvC scope cl C X.env) fp) ifs tt)
    (he : ∀ (s : Shared) (H : Hp) (C : Addr) (cl : List (Str × Addr)) (fp : List Addr), PM (X.blk s H scope (compEnvC scope cl C X.env) fp) elt me) (hj : ∀ j ∈ js, j ∈ own.map (·.2) := by decide) (hs : ∀ x, foldedSetIterable iter X.env x = pure x := by intro _; rfl) :
    PM X (.ListComp elt [⟨tg, iter, ifs, 0⟩] scope pos) (mLc mi (own.map (·.2)) g tt me) :=
  PE_imp (pe_lc hc hN hi ok hg ht he hs) fun _ _ _ h => tLcM hj h
end
end M
/-! M6: statements. -/
namespace M
open PySem PySem.Spec PyProof.Rows L2

inductive Out where
  | nx (e : En) | rt (t : T) | bk (e : En) | ct (e : En)
abbrev SM := En → Option Out
/-- the slots stand, R is kept, what is frozen was so ahead (G0) or is new -/
def SR (K : PySem.W.Frag) (G0 R : Hp) (env : En) (σ : L2.St) (H : Hp) : Prop := ∃ G F, Rel K G H env σ F ∧ (∀ a ∈ F, R a = none) ∧ Ext G0 R G H
def RR (K : PySem.W.Frag) (G0 R : Hp) (t : T) (v : V) (H : Hp) : Prop := ∃ G F, Ext G0 R G H ∧ TR K G H t v F ∧ F.Nodup ∧ ∀ a ∈ F, G a = none ∧ R a = none
def Goes (K : PySem.W.Frag) (G0 R : Hp) (D : Ends) : Out → Prop
  | .nx e => ∀ σ H, SR K G0 R e σ H → D.nx σ H
  | .rt t => ∀ v H, RR K G0 R t v H → D.rt v H
  | .bk e => ∀ σ H, SR K G0 R e σ H → D.bk σ H
  | .ct e => ∀ σ H, SR K G0 R e σ H → D.ct σ H
def tS (K : PySem.W.Frag) (m : SM) : TS := fun D σ H => ∃ G0 R env, SR K G0 R env σ H ∧ ∃ o, m env = some o ∧ Goes K G0 R D o
abbrev PSM (X : Cx) (st : Stmt) (m : SM) : Prop := PS X st (tS X.K m)
abbrev PSsM (X : Cx) (st : List Stmt) (m : SM) : Prop := PSs X st (tS X.K m)
theorem PS_imp {X : Cx} {e : Stmt} {t t' : TS} (h : PS X e t) (i : ∀ D σ H, t' D σ H → t D σ H) : PS X e t' := ⟨fun pins s σ H D I q => h.run pins s σ H D I (i D σ H q)⟩
theorem PSs_imp {X : Cx} {e : List Stmt} {t t' : TS} (h : PSs X e t) (i : ∀ D σ H, t' D σ H → t D σ H) : PSs X e t' := ⟨fun pins s σ H D I q => h.run pins s σ H D I (i D σ H q)⟩

section
variable {K : PySem.W.Frag} {G0 R G1 G H H' : Hp}
/-- R kept, through a first state -/
theorem Ext.step (a : Ext G0 R G H) {G' : Hp} (b : Ext G H G' H') : Ext G0 R G' H' := a.trans b
theorem Ext.over {H1 : Hp} (a : Ext G0 R G1 H1) (b : Ext G1 R G H) : Ext G0 R G H := ⟨a.gg.trans b.gg, b.hh, b.gh, fun x h => by
  rcases b.fr x h with z | z
  · exact a.fr x z
  · exact .inr z⟩
theorem SR.over {H1 : Hp} {env : En} {σ : L2.St} (a : Ext G0 R G1 H1) (s : SR K G1 R env σ H) : SR K G0 R env σ H := by
  obtain ⟨G, F, h1, h2, h3⟩ := s
  exact ⟨G, F, h1, h2, a.over h3⟩
theorem RR.over {H1 : Hp} {t : T} {v : V} (a : Ext G0 R G1 H1) (s : RR K G1 R t v H) : RR K G0 R t v H := by
  obtain ⟨G, F, h1, h2, h3, h4⟩ := s
  exact ⟨G, F, a.over h1, h2, h3, h4⟩
theorem Goes.over {H1 : Hp} {D : Ends} {o : Out} (a : Ext G0 R G1 H1) (g : Goes K G0 R D o) : Goes K G1 R D o := by
  cases o with
  | nx e => exact fun σ H s => g σ H (s.over a)
  | rt t => exact fun v H s => g v H (s.over a)
  | bk e => exact fun σ H s => g σ H (s.over a)
  | ct e => exact fun σ H s => g σ H (s.over a)
end

/-! ### blocks -/
def sNil : SM := fun env => some (.nx env)
def sCons (a b : SM) : SM := fun env => (a env).bind fun o => match o with
  | .nx e => b e
  | o => some o
section
variable {X : Cx} {st : Stmt} {rest : List Stmt} {ma mb : SM} {pos : Pos}
theorem psm_nil : PSsM X [] sNil := PSs_imp pss_nil fun D σ H h => by
  obtain ⟨G0, R, env, s, o, e, g⟩ := h
  cases e
  exact g σ H s
theorem psm_cons (ha : PSM X st ma) (hb : PSsM X rest mb) : PSsM X (st :: rest) (sCons ma mb) := by
  refine PSs_imp (pss_cons ha hb) fun D σ H h => ?_
  obtain ⟨G0, R, env, s, o, e, g⟩ := h
  simp only [sCons, Option.bind_eq_some_iff] at e
  obtain ⟨o1, e1, e2⟩ := e
  refine ⟨G0, R, env, s, o1, e1, ?_⟩
  cases o1 with
  | nx e => exact fun σ' H' s' => ⟨G0, R, e, s', o, e2, g⟩
  | rt t => cases e2; exact g
  | bk t => cases e2; exact g
  | ct t => cases e2; exact g
theorem psm_one (ha : PSM X st ma) : PSsM X [st] ma := by
  refine PSs_imp (pss_one ha) fun D σ H h => ?_
  exact h
/-! ### small statements -/
def sPass : SM := fun env => some (.nx env)
def sBreak : SM := fun env => some (.bk env)
def sContinue : SM := fun env => some (.ct env)
def sNever : SM := fun _ => none
theorem psm_pass : PSM X (.Pass pos) sPass := PS_imp ps_pass fun D σ H h => by
  obtain ⟨G0, R, env, s, o, e, g⟩ := h
  cases e
  exact g σ H s
theorem psm_break : PSM X (.Break pos) sBreak := PS_imp ps_break fun D σ H h => by
  obtain ⟨G0, R, env, s, o, e, g⟩ := h
  cases e
  exact g σ H s
theorem psm_continue : PSM X (.Continue pos) sContinue := PS_imp ps_continue fun D σ H h => by
  obtain ⟨G0, R, env, s, o, e, g⟩ := h
  cases e
  exact g σ H s
theorem psm_never : PSM X st sNever := PS_imp ps_never fun D σ H h => by
  obtain ⟨G0, R, env, s, o, e, g⟩ := h
  cases e
variable {e : Expr} {me : EM}
def sExpr (m : EM) : SM := fun env => (m env).map fun _ => .nx env
theorem psm_expr (he : PM X e me) (hs : swapsWith e none pos.line X.env = pure false := by rfl) : PSM X (.Expr e pos) (sExpr me) := by
  refine PS_imp (ps_expr he hs) fun D σ H h => ?_
  obtain ⟨G0, R, env, ⟨G, F, rel, hR, x0⟩, o, e, g⟩ := h
  simp only [sExpr, Option.map_eq_some_iff] at e
  obtain ⟨t, e1, rfl⟩ := e
  exact ⟨G, env, F, rel, t, e1, fun v H' G' F' x r => g σ H' ⟨G', F, rel.ext x, hR, x0.trans x⟩⟩
def sRet (m : EM) : SM := fun env => (m env).bind fun t => t.pure?.map fun d => .rt (.p d)
theorem psm_ret (he : PM X e me) : PSM X (.Return (some e) pos) (sRet me) := by
  refine PS_imp (ps_ret he) fun D σ H h => ?_
  obtain ⟨G0, R, env, ⟨G, F, rel, hR, x0⟩, o, e, g⟩ := h
  simp only [sRet, Option.bind_eq_some_iff, Option.map_eq_some_iff] at e
  obtain ⟨t, e1, d, e2, rfl⟩ := e
  exact ⟨G, env, F, rel, t, e1, fun v H' G' F' x r => g v H' ⟨G', [], x0.trans x, .p (r.of_pure? e2), .nil, fun _ z => nomatch z⟩⟩
def sSet (i : Nat) (m : EM) : SM := fun env => (m env).bind fun t => t.pure?.map fun d => .nx (env.set i (some (.p d)))
theorem SR.putp {K : PySem.W.Frag} {G0 R G H : Hp} {env : En} {σ : L2.St} {F : List Addr} (rel : Rel K G H env σ F) (hR : ∀ a ∈ F, R a = none) (x0 : Ext G0 R G H) (i : Nat) {v : V} {d : D} (h : Rp K G v d) : SR K G0 R (env.set i (some (.p d))) (σ.set i (some v)) H := by
  obtain ⟨F', r', s'⟩ := rel.putp i h
  exact ⟨G, F', r', fun a ha => hR a (s' a ha), x0⟩
theorem tSetM {K : PySem.W.Frag} {i : Nat} {m : EM} {D : Ends} {σ : L2.St} {H : Hp} (h : tS K (sSet i m) D σ H) : tM K m σ H fun x H1 => gName i x σ H1 D.nx := by
  obtain ⟨G0, R, env, ⟨G, F, rel, hR, x0⟩, o, e, g⟩ := h
  simp only [sSet, Option.bind_eq_some_iff, Option.map_eq_some_iff] at e
  obtain ⟨t, e1, d, e2, rfl⟩ := e
  exact ⟨G, env, F, rel, t, e1, fun v H' G' F' x r => g _ H' (SR.putp (rel.ext x) hR (x0.trans x) i (r.of_pure? e2))⟩
theorem psm_set {i : Nat} {x : Str} {pos' : Pos} (hN : X.N.Nodup) (he : PM X e me) (hi : X.N[i]? = some x := by rfl) (hx : Loc X.env.scope x := by first | exact Or.inl rfl | exact Or.inr rfl) (hs : swapsWith e (some (.Name x pos')) pos.line X.env = pure false := by rfl) (hf : X.fn x = true ∨ X.env.scope.names.lookup x = some .local := by first | exact .inl rfl | exact .inr rfl | assumption) :
    PSM X (.Assign [.Name x pos'] e pos) (sSet i me) := PS_imp (ps_set hN hi hx he hs hf) fun D σ H h => tSetM h
/-- y = [..] -/
theorem psm_setLc {i : Nat} {y : Str} {py spos : Pos} {elt tg iter : Expr} {ifs : List Expr} {scope : Scope} {own : List (Str × Nat)} {fz : Bool} {mi : En → Option (List D)} {js : List Nat} {g : D → En → Option En} {tt : En → Option Bool} {me : EM} (hc : X.calm = true) (hN : X.N.Nodup)
    (hi : PIM X tg iter fz mi) (ok : BlkOk X.N X.env.scope scope own)
    (hg : ∀ (s : Shared) (H : Hp) (C : Addr) (cl : List (Str × Addr)) (fp : List Addr), GM (X.blk s H scope (compEnvC scope cl C X.env) fp) tg js g) (ht : ∀ (s : Shared) (H : Hp) (C : Addr) (cl : List (Str × Addr)) (fp : List Addr), PTsM (X.blk s H scope (compEnvC scope cl C X.env) fp) ifs tt)
    (he : ∀ (s : Shared) (H : Hp) (C : Addr) (cl : List (Str × Addr)) (fp : List Addr), PM (X.blk s H scope (compEnvC scope cl C X.env) fp) elt me)
    (hsw : swapsWith (.ListComp elt [⟨tg, iter, ifs, 0⟩] scope pos) (some (.Name y py)) spos.line X.env = pure true) (hy : X.N[i]? = some y := by rfl) (hyl : X.env.scope.names.lookup y = some .local := by rfl)
    (hj : ∀ j ∈ js, j ∈ own.map (·.2) := by decide) (hs : ∀ x, foldedSetIterable iter X.env x = pure x := by intro _; rfl) :
    PSM X (.Assign [.Name y py] (.ListComp elt [⟨tg, iter, ifs, 0⟩] scope pos) spos) (sSet i (mLc mi (own.map (·.2)) g tt me)) :=
  PS_imp (ps_setLc hc hN hy hyl hsw hi ok hg ht he hs) fun D σ H h => tLcM hj (tSetM h)
/-- a, b = e -/
def sAsg (g : D → En → Option En) (m : EM) : SM := fun env => (m env).bind fun t => t.pure?.bind fun d => (g d env).map .nx
theorem psm_asg {tg : Expr} {js : List Nat} {g : D → En → Option En} (he : PM X e me) (hg : GM X tg js g) (hs : swapsWithSole [tg] e pos.line X.env = pure false := by rfl) (hw : swappedStores [tg] e X.env = pure none := by rfl)
    (h1 : (assignEach [tg] X.env).map (·.2) = [assign tg X.env] := by rfl) : PSM X (.Assign [tg] e pos) (sAsg g me) := by
  refine PS_imp (ps_asg he hg hs hw h1) fun D σ H h => ?_
  obtain ⟨G0, R, env, ⟨G, F, rel, hR, x0⟩, o, e, gg⟩ := h
  simp only [sAsg, Option.bind_eq_some_iff, Option.map_eq_some_iff] at e
  obtain ⟨t, e1, d, e2, env', e3, rfl⟩ := e
  refine ⟨G, env, F, rel, t, e1, fun v H' G' F' x r => ?_⟩
  exact ⟨G', env, F, d, rel.ext x, r.of_pure? e2, env', e3, fun σ' F2 rel2 s2 _ => gg σ' H' ⟨G', F2, rel2, fun a ha => hR a (s2 a ha), x0.trans x⟩⟩
/-- a, b = x, y (plain locals) -/
def sPar (i j : Nat) (ms : En → Option (List T)) : SM := fun env => (ms env).bind fun ts => (pures ts).bind fun ds => match ds with
  | [d, d'] => some (.nx ((env.set i (some (.p d))).set j (some (.p d'))))
  | _ => none
theorem psm_par {i j : Nat} {x y : Str} {a b : Expr} {ms : En → Option (List T)} {px py pt : Pos} {kt k2 pt2} (hc : X.calm = true) (hN : X.N.Nodup) (hij : i ≠ j) (ha : PAM X [a, b] ms)
    (hw : swappedStores [.Tuple [.Name x px, .Name y py] kt pt] (.Tuple [a, b] k2 pt2) X.env = pure (some [x, y])) (hi : X.N[i]? = some x := by rfl) (hj : X.N[j]? = some y := by rfl)
    (hx : X.env.scope.names.lookup x = some .local := by rfl) (hy : X.env.scope.names.lookup y = some .local := by rfl)
    (hs : swapsWithSole [.Tuple [.Name x px, .Name y py] kt pt] (.Tuple [a, b] k2 pt2) pos.line X.env = pure false := by rfl) :
    PSM X (.Assign [.Tuple [.Name x px, .Name y py] kt pt] (.Tuple [a, b] k2 pt2) pos) (sPar i j ms) := by
  refine PS_imp (ps_par hc hN hi hj hij hx hy ha hw hs) fun D σ H h => ?_
  obtain ⟨G0, R, env, ⟨G, F, rel, hR, x0⟩, o, e, g⟩ := h
  simp only [sPar, Option.bind_eq_some_iff] at e
  obtain ⟨ts, e1, ds, e2, e3⟩ := e
  split at e3
  · rename_i d d'
    cases e3
    refine ⟨G, env, F, rel, ts, e1, fun vs H' G' x r => ?_⟩
    have rp := r.pures e2
    cases rp with
    | cons p1 rp =>
      cases rp with
      | cons p2 rp =>
        cases rp
        refine ⟨_, _, rfl, g _ H' ?_⟩
        obtain ⟨F1, r1, s1⟩ := (rel.ext x).putp i p1
        exact SR.putp r1 (fun a ha => hR a (s1 a ha)) (x0.trans x) j p2
  · cases e3
/-! ### if, for, while -/
def sIf (c : En → Option Bool) (a b : SM) : SM := fun env => (c env).bind fun k => if k then a env else b env
theorem psm_if {c : Expr} {a b : List Stmt} {mc : En → Option Bool} (hc : PTM X c mc) (ha : PSsM X a ma) (hb : PSsM X b mb) : PSM X (.If c a b pos) (sIf mc ma mb) := by
  refine PS_imp (ps_if hc ha hb) fun D σ H h => ?_
  obtain ⟨G0, R, env, ⟨G, F, rel, hR, x0⟩, o, e, g⟩ := h
  simp only [sIf, Option.bind_eq_some_iff] at e
  obtain ⟨k, e1, e2⟩ := e
  refine ⟨G, env, F, rel, k, e1, fun H' G' x => ?_⟩
  cases k with
  | true =>
    rw [if_pos rfl] at e2
    exact iteT ⟨G0, R, env, ⟨G', F, rel.ext x, hR, x0.trans x⟩, o, e2, g⟩
  | false =>
    rw [if_neg Bool.false_ne_true] at e2
    exact iteF ⟨G0, R, env, ⟨G', F, rel.ext x, hR, x0.trans x⟩, o, e2, g⟩
def forRun (g : D → En → Option En) (mb : SM) : List D → En → Option Out
  | [], env => some (.nx env)
  | d :: r, env => (g d env).bind fun e1 => (mb e1).bind fun o => match o with
    | .nx e => forRun g mb r e
    | .ct e => forRun g mb r e
    | .bk e => some (.nx e)
    | .rt t => some (.rt t)
def sFor (mi : En → Option (List D)) (g : D → En → Option En) (mb : SM) : SM := fun env => (mi env).bind fun ds => forRun g mb ds env
theorem psm_for {tg iter : Expr} {body : List Stmt} {mi : En → Option (List D)} {js : List Nat} {g : D → En → Option En} (hp : PassesOwn (model X.prog X.w) X.A X.env X.xe) (hc : X.calm = true) (hi : PIM X tg iter true mi) (hg : GM X tg js g) (hb : PSsM X body mb)
    (hs : ∀ x, foldedSetIterable iter X.env x = pure x := by intro _; rfl) : PSM X (.For tg iter body [] pos) (sFor mi g mb) := by
  refine PS_imp (ps_for hp hc hi hg hb hs) fun D σ H h => ?_
  obtain ⟨G0, R, env, ⟨G, F, rel, hR, x0⟩, o, e, gg⟩ := h
  simp only [sFor, Option.bind_eq_some_iff] at e
  obtain ⟨ds, e1, e2⟩ := e
  refine ⟨G, env, F, rel, ds, e1, fun J H1 G1 x1 wk => ?_⟩
  have x01 := x0.trans x1
  refine ⟨fun i m σ H => m = ds.length - i ∧ i ≤ ds.length ∧ ∃ envi, SR X.K G1 R envi σ H ∧ forRun g mb (ds.drop i) envi = some o, ⟨ds.length, rfl, Nat.zero_le _, env, ⟨G1, F, rel.ext x1, hR, ⟨Same.refl _, x01.hh, x1.gh, fun a h => .inl h⟩⟩, e2⟩, ?_⟩
  rintro i m σ H ⟨rfl, hi', envi, ⟨G2, F2, rel2, hR2, x2⟩, e3⟩
  have sB : Same G1 H := x2.gg.trans x2.gh
  by_cases hlt : i < ds.length
  · have ed : ds.drop i = ds[i] :: ds.drop (i + 1) := List.drop_eq_getElem_cons hlt
    rw [ed] at e3
    simp only [forRun, Option.bind_eq_some_iff] at e3
    obtain ⟨env1, e4, o1, e5, e6⟩ := e3
    refine .inr ⟨wk.go i H sB hlt, fun σ' H' => (∃ envi, SR X.K G1 R envi σ' H' ∧ forRun g mb (ds.drop (i + 1)) envi = some o), fun σ' H' w => ⟨ds.length - (i + 1), by omega, rfl, hlt, w⟩, fun x H3 y => ?_⟩
    obtain ⟨G3, x3, rd⟩ := wk.yld i H x H3 G2 ds[i] sB x2.gg x2.gh y (List.getElem?_eq_getElem hlt)
    refine ⟨G3, envi, F2, ds[i], rel2.ext x3, rd, env1, e4, fun σ4 F4 rel4 s4 _ => ?_⟩
    refine ⟨G1, R, env1, ⟨G3, F4, rel4, fun a ha => hR2 a (s4 a ha), x2.trans x3⟩, o1, e5, ?_⟩
    cases o1 with
    | nx e => exact fun σ' H' s' => ⟨e, s', e6⟩
    | ct e => exact fun σ' H' s' => ⟨e, s', e6⟩
    | bk e =>
      cases e6
      exact fun σ' H' s' => gg σ' H' (s'.over x01)
    | rt t =>
      cases e6
      exact fun v H' s' => gg v H' (s'.over x01)
  · have hi2 : i = ds.length := by omega
    subst hi2
    rw [List.drop_length] at e3
    cases e3
    exact .inl ⟨wk.stop _ H sB (Nat.le_refl _), gg σ H (SR.over x01 ⟨G2, F2, rel2, hR2, x2⟩)⟩
def whileRun (c : En → Option Bool) (mb : SM) : Nat → En → Option Out
  | 0, _ => none
  | n + 1, env => (c env).bind fun k => if k then (mb env).bind fun o => (match o with
    | .nx e => whileRun c mb n e
    | .ct e => whileRun c mb n e
    | .bk e => some (.nx e)
    | .rt t => some (.rt t)) else some (.nx env)
def sWhile (fuel : Nat) (c : En → Option Bool) (mb : SM) : SM := fun env => whileRun c mb fuel env
theorem psm_while {fuel : Nat} {c : Expr} {body : List Stmt} {mc : En → Option Bool} (hp : PassesOwn (model X.prog X.w) X.A X.env X.xe) (hc : PTM X c mc) (hb : PSsM X body mb) : PSM X (.While c body [] pos) (sWhile fuel mc mb) := by
  refine PS_imp (ps_while hp hc hb) fun D σ H h => ?_
  obtain ⟨G0, R, env, s, o, e, gg⟩ := h
  refine ⟨fun m σ H => ∃ envi, SR X.K G0 R envi σ H ∧ whileRun mc mb m envi = some o, ⟨fuel, env, s, e⟩, ?_⟩
  rintro m σ H ⟨envi, ⟨G, F, rel, hR, x0⟩, e1⟩
  cases m with
  | zero => cases e1
  | succ m =>
    simp only [whileRun, Option.bind_eq_some_iff] at e1
    obtain ⟨k, e2, e3⟩ := e1
    refine ⟨G, envi, F, rel, k, e2, fun H' G' x => ?_⟩
    cases k with
    | false =>
      rw [if_neg Bool.false_ne_true] at e3
      cases e3
      exact iteF (gg σ H' ⟨G', F, rel.ext x, hR, x0.trans x⟩)
    | true =>
      rw [if_pos rfl] at e3
      simp only [Option.bind_eq_some_iff] at e3
      obtain ⟨o1, e4, e5⟩ := e3
      refine iteT ⟨fun σ' H' => ∃ envi, SR X.K G0 R envi σ' H' ∧ whileRun mc mb m envi = some o, fun σ' H' w => ⟨m, Nat.lt_succ_self m, w⟩, ?_⟩
      refine ⟨G0, R, envi, ⟨G', F, rel.ext x, hR, x0.trans x⟩, o1, e4, ?_⟩
      cases o1 with
      | nx e => exact fun σ' H' s' => ⟨e, s', e5⟩
      | ct e => exact fun σ' H' s' => ⟨e, s', e5⟩
      | bk e => cases e5; exact fun σ' H' s' => gg σ' H' s'
      | rt t => cases e5; exact fun v H' s' => gg v H' s'
/-! ### a slot is frozen (no deed of the program's) -/
def sFrz (i : Nat) (m : SM) : SM := fun env => match env[i]? with
  | some (some t) => t.snap.bind fun d => m (env.set i (some (.p d)))
  | _ => m env
theorem psm_frz {sts : List Stmt} (i : Nat) (h : PSsM X sts ma) : PSsM X sts (sFrz i ma) := by
  refine PSs_imp h fun D σ H h => ?_
  obtain ⟨G0, R, env, ⟨G, F, rel, hR, x0⟩, o, e, gg⟩ := h
  unfold sFrz at e
  split at e
  · rename_i t et
    rw [Option.bind_eq_some_iff] at e
    obtain ⟨d, e1, e2⟩ := e
    obtain ⟨v, F1, Fa, Fb, h1, h2, h3, _, h5, _⟩ := rel.es.split et
    subst h3
    have m1 : ∀ a ∈ F1, a ∈ Fa ++ (F1 ++ Fb) := fun a ha => List.mem_append_right _ (List.mem_append_left _ ha)
    let G' : Hp := fun a => if a ∈ F1 then H a else G a
    have g1 : Same G G' := fun a u z => by
      show (if a ∈ F1 then H a else G a) = some u
      by_cases ha : a ∈ F1
      · rw [(rel.fr a (m1 a ha)).1] at z; cases z
      · rw [if_neg ha]; exact z
    have g2 : Same G' H := fun a u z => by
      have z' : (if a ∈ F1 then H a else G a) = some u := z
      by_cases ha : a ∈ F1
      · rw [if_pos ha] at z'; exact z'
      · rw [if_neg ha] at z'; exact rel.sm a u z'
    have rd : Rp X.K G' v d := h2.data g1 (fun a ha u z => by
      show (if a ∈ F1 then H a else G a) = some u
      rw [if_pos ha]; exact z) e1
    have nd := rel.nd
    rw [List.nodup_append] at nd
    obtain ⟨n1, n2, n3⟩ := nd
    rw [List.nodup_append] at n2
    obtain ⟨n4, n5, n6⟩ := n2
    have dj : ∀ a ∈ Fa ++ Fb, a ∉ F1 := fun a ha z => by
      rcases List.mem_append.mp ha with w | w
      · exact n3 a w a (List.mem_append_left _ z) rfl
      · exact n6 a z a w rfl
    have mf : ∀ a ∈ Fa ++ Fb, a ∈ Fa ++ (F1 ++ Fb) := fun a ha => by
      rcases List.mem_append.mp ha with w | w
      · exact List.mem_append_left _ w
      · exact List.mem_append_right _ (List.mem_append_right _ w)
    have es := h5 G' H (.p d) [] g1 (Keep.of (Same.refl H)) (.p rd)
    rw [List.nil_append] at es
    refine ⟨G0, R, _, ⟨G', Fa ++ Fb, ⟨es, ?_, fun a ha => ?_, g2⟩, fun a ha => hR a (mf a ha), ⟨x0.gg.trans g1, x0.hh, g2, fun a z => ?_⟩⟩, o, e2, gg⟩
    · exact List.nodup_append.mpr ⟨n1, n5, fun a ha b hb => n3 a ha b (List.mem_append_right _ hb)⟩
    · obtain ⟨z1, z2⟩ := rel.fr a (mf a ha)
      refine ⟨?_, z2⟩
      show (if a ∈ F1 then H a else G a) = none
      rw [if_neg (dj a ha)]
      exact z1
    · have z' : (if a ∈ F1 then H a else G a) ≠ none := z
      by_cases ha : a ∈ F1
      · exact .inr (hR a (m1 a ha))
      · rw [if_neg ha] at z'; exact x0.fr a z'
  · exact ⟨G0, R, env, ⟨G, F, rel, hR, x0⟩, o, e, gg⟩
end
end M
/-! M7: owned trees: made, changed along a path. -/
namespace M
open PySem PySem.Spec PyProof.Rows L2

inductive Stp where
  | ix (k : Nat) | fd (f : Str)
def T.at : List Stp → T → Option T
  | [], t => some t
  | .ix k :: π, .ml ts => (ts[k]?).bind fun u => T.at π u
  | .ix k :: π, .tp ts => (ts[k]?).bind fun u => T.at π u
  | .fd f :: π, .ob _ fs => (fs.lookup f).bind fun u => T.at π u
  | _, _ => none
def setF (f : Str) (t : T) : List (Str × T) → List (Str × T)
  | [] => []
  | (g, u) :: r => if f == g then (g, t) :: r else (g, u) :: setF f t r
def T.put : List Stp → T → T → Option T
  | [], _, u => some u
  | .ix k :: π, .ml ts, u => (ts[k]?).bind fun c => (T.put π c u).map fun c' => .ml (ts.set k c')
  | .ix k :: π, .tp ts, u => (ts[k]?).bind fun c => (T.put π c u).map fun c' => .tp (ts.set k c')
  | .fd f :: π, .ob C fs, u => (fs.lookup f).bind fun c => (T.put π c u).map fun c' => .ob C (setF f c' fs)
  | _, _, _ => none
inductive VAt (H : Hp) : V → List Stp → V → Prop
  | nil (v : V) : VAt H v [] v
  | lst {a : Addr} {vs : List V} {k : Nat} {w u : V} {π : List Stp} : H a = some (.lst vs) → vs[k]? = some w → VAt H w π u → VAt H (.ref a) (.ix k :: π) u
  | tup {a : Addr} {vs : List V} {k : Nat} {w u : V} {π : List Stp} : H a = some (.tup vs) → vs[k]? = some w → VAt H w π u → VAt H (.ref a) (.ix k :: π) u
  | ob {a C dx : Addr} {fs : List (Str × V)} {f : Str} {w u : V} {π : List Stp} : H a = some (.ins C dx fs) → fs.lookup f = some w → VAt H w π u → VAt H (.ref a) (.fd f :: π) u
theorem VAt.mono {H H' : Hp} (s : Same H H') : ∀ {v : V} {π : List Stp} {u : V}, VAt H v π u → VAt H' v π u
  | _, _, _, .nil v => .nil v
  | _, _, _, .lst h e r => .lst (s _ _ h) e (r.mono s)
  | _, _, _, .tup h e r => .tup (s _ _ h) e (r.mono s)
  | _, _, _, .ob h e r => .ob (s _ _ h) e (r.mono s)
theorem VAt.det {H : Hp} : ∀ {v : V} {π : List Stp} {u w : V}, VAt H v π u → VAt H v π w → u = w
  | _, _, _, _, .nil _, .nil _ => rfl
  | _, _, _, _, .lst h e r, .lst h' e' r' => by rw [h] at h'; cases h'; rw [e] at e'; cases e'; exact r.det r'
  | _, _, _, _, .lst h e r, .tup h' e' r' => by rw [h] at h'; cases h'
  | _, _, _, _, .tup h e r, .lst h' e' r' => by rw [h] at h'; cases h'
  | _, _, _, _, .tup h e r, .tup h' e' r' => by rw [h] at h'; cases h'; rw [e] at e'; cases e'; exact r.det r'
  | _, _, _, _, .ob h e r, .ob h' e' r' => by rw [h] at h'; cases h'; rw [e] at e'; cases e'; exact r.det r'
theorem VAt.snocL {H : Hp} : ∀ {v : V} {π : List Stp} {a : Addr} {vs : List V} {k : Nat} {w : V}, VAt H v π (.ref a) → H a = some (.lst vs) → vs[k]? = some w → VAt H v (π ++ [.ix k]) w
  | _, _, _, _, _, _, .nil _, h, e => .lst h e (.nil _)
  | _, _, _, _, _, _, .lst h1 e1 r, h, e => .lst h1 e1 (r.snocL h e)
  | _, _, _, _, _, _, .tup h1 e1 r, h, e => .tup h1 e1 (r.snocL h e)
  | _, _, _, _, _, _, .ob h1 e1 r, h, e => .ob h1 e1 (r.snocL h e)
theorem VAt.snocT {H : Hp} : ∀ {v : V} {π : List Stp} {a : Addr} {vs : List V} {k : Nat} {w : V}, VAt H v π (.ref a) → H a = some (.tup vs) → vs[k]? = some w → VAt H v (π ++ [.ix k]) w
  | _, _, _, _, _, _, .nil _, h, e => .tup h e (.nil _)
  | _, _, _, _, _, _, .lst h1 e1 r, h, e => .lst h1 e1 (r.snocT h e)
  | _, _, _, _, _, _, .tup h1 e1 r, h, e => .tup h1 e1 (r.snocT h e)
  | _, _, _, _, _, _, .ob h1 e1 r, h, e => .ob h1 e1 (r.snocT h e)
theorem VAt.snocF {H : Hp} : ∀ {v : V} {π : List Stp} {a C dx : Addr} {fs : List (Str × V)} {f : Str} {w : V}, VAt H v π (.ref a) → H a = some (.ins C dx fs) → fs.lookup f = some w → VAt H v (π ++ [.fd f]) w
  | _, _, _, _, _, _, _, _, .nil _, h, e => .ob h e (.nil _)
  | _, _, _, _, _, _, _, _, .lst h1 e1 r, h, e => .lst h1 e1 (r.snocF h e)
  | _, _, _, _, _, _, _, _, .tup h1 e1 r, h, e => .tup h1 e1 (r.snocF h e)
  | _, _, _, _, _, _, _, _, .ob h1 e1 r, h, e => .ob h1 e1 (r.snocF h e)

section
variable {K : PySem.W.Frag} {G H : Hp}
theorem TRs.split : ∀ {ts : List T} {vs : List V} {F : List Addr} {k : Nat} {t : T}, TRs K G H ts vs F → ts[k]? = some t →
    ∃ v F1 Fa Fb, vs[k]? = some v ∧ TR K G H t v F1 ∧ F = Fa ++ (F1 ++ Fb) ∧
      ∀ G' H' t' F1', Same G G' → Keep (Fa ++ Fb) H H' → TR K G' H' t' v F1' → TRs K G' H' (ts.set k t') vs (Fa ++ (F1' ++ Fb))
  | _, _, _, 0, t, .cons (F := F1) (F' := F2) h r, e => by
    simp only [List.getElem?_cons_zero, Option.some.injEq] at e
    subst e
    refine ⟨_, F1, [], F2, rfl, h, rfl, fun G' H' t' F1' s k q => ?_⟩
    rw [List.nil_append]
    exact .cons q (r.keep s k)
  | _, _, _, k + 1, t, .cons (F := F0) h r, e => by
    obtain ⟨v, F1, Fa, Fb, h1, h2, h3, h4⟩ := TRs.split (k := k) (t := t) r (by simpa using e)
    refine ⟨v, F1, F0 ++ Fa, Fb, by simpa using h1, h2, by rw [h3, List.append_assoc], fun G' H' t' F1' s k q => ?_⟩
    rw [List.append_assoc]
    refine .cons (h.keep s (k.sub fun _ q => List.mem_append_left _ (List.mem_append_left _ q))) (h4 G' H' t' F1' s (k.sub fun _ q => ?_) q)
    rw [List.append_assoc]
    exact List.mem_append_right _ q
theorem TRf.split : ∀ {ts : List (Str × T)} {vs : List (Str × V)} {F : List Addr} {f : Str} {t : T}, TRf K G H ts vs F → ts.lookup f = some t →
    ∃ v F1 Fa Fb, vs.lookup f = some v ∧ TR K G H t v F1 ∧ F = Fa ++ (F1 ++ Fb) ∧
      ∀ G' H' t' F1', Same G G' → Keep (Fa ++ Fb) H H' → TR K G' H' t' v F1' → TRf K G' H' (setF f t' ts) vs (Fa ++ (F1' ++ Fb))
  | _, _, _, f, t, .nil, e => by simp at e
  | _, _, _, f, t, .cons (x := x) (F := F0) (F' := F2) h r, e => by
    rw [List.lookup_cons] at e
    by_cases hx : (f == x) = true
    · rw [hx] at e
      cases e
      refine ⟨_, F0, [], F2, by rw [List.lookup_cons, hx], h, rfl, fun G' H' t' F1' s k q => ?_⟩
      rw [List.nil_append]
      unfold setF
      rw [if_pos hx]
      exact .cons q (r.keep s k)
    · have hx' : (f == x) = false := by simpa using hx
      rw [hx'] at e
      obtain ⟨v, F1, Fa, Fb, h1, h2, h3, h4⟩ := TRf.split (f := f) (t := t) r e
      refine ⟨v, F1, F0 ++ Fa, Fb, by rw [List.lookup_cons, hx']; exact h1, h2, by rw [h3, List.append_assoc], fun G' H' t' F1' s k q => ?_⟩
      rw [List.append_assoc]
      unfold setF
      rw [if_neg hx]
      refine .cons (h.keep s (k.sub fun _ q => List.mem_append_left _ (List.mem_append_left _ q))) (h4 G' H' t' F1' s (k.sub fun _ q => ?_) q)
      rw [List.append_assoc]
      exact List.mem_append_right _ q
theorem TR.at : ∀ {π : List Stp} {t u : T} {v0 : V} {F : List Addr}, TR K G H t v0 F → T.at π t = some u →
    ∃ v F1 Fa Fb, VAt H v0 π v ∧ TR K G H u v F1 ∧ F = Fa ++ (F1 ++ Fb) ∧
      ∀ G' H' u' F1', Same G G' → Keep (Fa ++ Fb) H H' → TR K G' H' u' v F1' → ∃ t', T.put π t u' = some t' ∧ TR K G' H' t' v0 (Fa ++ (F1' ++ Fb))
  | [], t, u, v0, F, r, e => by
    cases e
    refine ⟨v0, F, [], [], .nil _, r, by simp, fun G' H' u' F1' s k q => ⟨u', rfl, by simpa using q⟩⟩
  | .ix k :: π, _, u, _, _, .ml (ts := ts) (a := a) h r, e => by
    simp only [T.at, Option.bind_eq_some_iff] at e
    obtain ⟨c, e1, e2⟩ := e
    obtain ⟨w, Fc, Fp, Fs, h1, h2, h3, h4⟩ := r.split e1
    obtain ⟨v, F1, Fa, Fb, g1, g2, g3, g4⟩ := TR.at h2 e2
    subst h3 g3
    refine ⟨v, F1, a :: (Fp ++ Fa), Fb ++ Fs, .lst h h1 g1, g2, by simp [List.append_assoc], fun G' H' u' F1' s kp q => ?_⟩
    obtain ⟨t', p1, p2⟩ := g4 G' H' u' F1' s (kp.sub fun x hx => by simp at hx ⊢; rcases hx with z | z <;> simp [z]) q
    refine ⟨_, (by simp only [T.put, e1, Option.bind_some, p1, Option.map_some] : T.put (.ix k :: π) (.ml ts) u' = some (.ml (List.set ts k t'))), ?_⟩
    have q2 := h4 G' H' t' _ s (kp.sub fun x hx => by simp at hx ⊢; rcases hx with z | z <;> simp [z]) p2
    have q3 : TR K G' H' (.ml (_)) (.ref a) _ := .ml (kp a (by simp) _ h) q2
    have e9 : (a :: (Fp ++ (Fa ++ (F1' ++ Fb) ++ Fs))) = a :: (Fp ++ Fa) ++ (F1' ++ (Fb ++ Fs)) := by simp [List.append_assoc]
    rw [e9] at q3
    exact q3
  | .ix k :: π, _, u, _, _, .tp (ts := ts) (a := a) h r, e => by
    simp only [T.at, Option.bind_eq_some_iff] at e
    obtain ⟨c, e1, e2⟩ := e
    obtain ⟨w, Fc, Fp, Fs, h1, h2, h3, h4⟩ := r.split e1
    obtain ⟨v, F1, Fa, Fb, g1, g2, g3, g4⟩ := TR.at h2 e2
    subst h3 g3
    refine ⟨v, F1, a :: (Fp ++ Fa), Fb ++ Fs, .tup h h1 g1, g2, by simp [List.append_assoc], fun G' H' u' F1' s kp q => ?_⟩
    obtain ⟨t', p1, p2⟩ := g4 G' H' u' F1' s (kp.sub fun x hx => by simp at hx ⊢; rcases hx with z | z <;> simp [z]) q
    refine ⟨_, (by simp only [T.put, e1, Option.bind_some, p1, Option.map_some] : T.put (.ix k :: π) (.tp ts) u' = some (.tp (List.set ts k t'))), ?_⟩
    have q2 := h4 G' H' t' _ s (kp.sub fun x hx => by simp at hx ⊢; rcases hx with z | z <;> simp [z]) p2
    have q3 : TR K G' H' (.tp (_)) (.ref a) _ := .tp (kp a (by simp) _ h) q2
    have e9 : (a :: (Fp ++ (Fa ++ (F1' ++ Fb) ++ Fs))) = a :: (Fp ++ Fa) ++ (F1' ++ (Fb ++ Fs)) := by simp [List.append_assoc]
    rw [e9] at q3
    exact q3
  | .fd f :: π, _, u, _, _, .ob (C := C) (fs := ts) (a := a) (dx := dx) h h0 r, e => by
    simp only [T.at, Option.bind_eq_some_iff] at e
    obtain ⟨c, e1, e2⟩ := e
    obtain ⟨w, Fc, Fp, Fs, h1, h2, h3, h4⟩ := r.split e1
    obtain ⟨v, F1, Fa, Fb, g1, g2, g3, g4⟩ := TR.at h2 e2
    subst h3 g3
    refine ⟨v, F1, a :: dx :: (Fp ++ Fa), Fb ++ Fs, .ob h h1 g1, g2, by simp [List.append_assoc], fun G' H' u' F1' s kp q => ?_⟩
    obtain ⟨t', p1, p2⟩ := g4 G' H' u' F1' s (kp.sub fun x hx => by simp at hx ⊢; rcases hx with z | z <;> simp [z]) q
    refine ⟨_, (by simp only [T.put, e1, Option.bind_some, p1, Option.map_some] : T.put (.fd f :: π) (.ob C ts) u' = some (.ob C (setF f t' ts))), ?_⟩
    have q2 := h4 G' H' t' _ s (kp.sub fun x hx => by simp at hx ⊢; rcases hx with z | z <;> simp [z]) p2
    have q3 : TR K G' H' (.ob C (_)) (.ref a) _ := .ob (kp a (by simp) _ h) (kp dx (by simp) _ h0) q2
    have e9 : (a :: dx :: (Fp ++ (Fa ++ (F1' ++ Fb) ++ Fs))) = a :: dx :: (Fp ++ Fa) ++ (F1' ++ (Fb ++ Fs)) := by simp [List.append_assoc]
    rw [e9] at q3
    exact q3
  | .ix _ :: _, _, _, _, _, .p _, e => by simp [T.at] at e
  | .ix _ :: _, _, _, _, _, .sc _, e => by simp [T.at] at e
  | .ix _ :: _, _, _, _, _, .md _ _, e => by simp [T.at] at e
  | .ix _ :: _, _, _, _, _, .ob _ _ _, e => by simp [T.at] at e
  | .fd _ :: _, _, _, _, _, .p _, e => by simp [T.at] at e
  | .fd _ :: _, _, _, _, _, .sc _, e => by simp [T.at] at e
  | .fd _ :: _, _, _, _, _, .md _ _, e => by simp [T.at] at e
  | .fd _ :: _, _, _, _, _, .ml _ _, e => by simp [T.at] at e
  | .fd _ :: _, _, _, _, _, .tp _ _, e => by simp [T.at] at e
mutual
theorem TR.alive : ∀ {t : T} {v : V} {F : List Addr}, TR K G H t v F → ∀ a ∈ F, H a ≠ none
  | _, _, _, .p _, _, h => nomatch h
  | _, _, _, .sc _, _, h => nomatch h
  | _, _, _, .ml h r, a, ha => by
    rcases List.mem_cons.mp ha with z | z
    · subst z; rw [h]; exact Option.some_ne_none _
    · exact TRs.alive r a z
  | _, _, _, .tp h r, a, ha => by
    rcases List.mem_cons.mp ha with z | z
    · subst z; rw [h]; exact Option.some_ne_none _
    · exact TRs.alive r a z
  | _, _, _, .md h r, a, ha => by
    rcases List.mem_cons.mp ha with z | z
    · subst z; rw [h]; exact Option.some_ne_none _
    · cases z
  | _, _, _, .ob h h0 r, a, ha => by
    rcases List.mem_cons.mp ha with z | z
    · subst z; rw [h]; exact Option.some_ne_none _
    · rcases List.mem_cons.mp z with z | z
      · subst z; rw [h0]; exact Option.some_ne_none _
      · exact TRf.alive r a z
theorem TRs.alive : ∀ {t : List T} {v : List V} {F : List Addr}, TRs K G H t v F → ∀ a ∈ F, H a ≠ none
  | _, _, _, .nil, _, h => nomatch h
  | _, _, _, .cons h r, a, ha => by
    rcases List.mem_append.mp ha with z | z
    · exact TR.alive h a z
    · exact TRs.alive r a z
theorem TRf.alive : ∀ {t : List (Str × T)} {v : List (Str × V)} {F : List Addr}, TRf K G H t v F → ∀ a ∈ F, H a ≠ none
  | _, _, _, .nil, _, h => nomatch h
  | _, _, _, .cons h r, a, ha => by
    rcases List.mem_append.mp ha with z | z
    · exact TR.alive h a z
    · exact TRf.alive r a z
end
theorem ES.alive : ∀ {env : En} {σ : L2.St} {F : List Addr}, ES K G H env σ F → ∀ a ∈ F, H a ≠ none
  | _, _, _, .nil, _, h => nomatch h
  | _, _, _, .no r, a, ha => ES.alive r a ha
  | _, _, _, .so h r, a, ha => by
    rcases List.mem_append.mp ha with z | z
    · exact TR.alive h a z
    · exact ES.alive r a z
/-- the part at a path of a slot, and what a change there makes of the slots -/
theorem Rel.mut {env : En} {σ : L2.St} {F : List Addr} {i : Nat} {t u : T} {π : List Stp} (rel : Rel K G H env σ F) (ei : env[i]? = some (some t)) (eu : T.at π t = some u) :
    ∃ v0 v F1 Fo, σ[i]? = some (some v0) ∧ VAt H v0 π v ∧ TR K G H u v F1 ∧ (∀ a ∈ F1, a ∈ F) ∧ F1.Nodup ∧ (∀ a ∈ Fo, a ∈ F ∧ a ∉ F1) ∧
      ∀ G' H' u' F1', Same G G' → Same G' H' → Keep Fo H H' → TR K G' H' u' v F1' → F1'.Nodup → (∀ a ∈ F1', G' a = none ∧ a ∉ Fo) → (∀ a ∈ Fo, G' a = none) →
        ∃ t' F', T.put π t u' = some t' ∧ Rel K G' H' (env.set i (some t')) σ F' ∧ ∀ a ∈ F', a ∈ F1' ∨ a ∈ Fo := by
  obtain ⟨v0, F0, Fa, Fb, h1, h2, h3, _, h5, _⟩ := rel.es.split ei
  obtain ⟨v, F1, Fc, Fd, g1, g2, g3, g4⟩ := h2.at eu
  subst h3 g3
  have nd := rel.nd
  have e0 : Fa ++ (Fc ++ (F1 ++ Fd) ++ Fb) = (Fa ++ Fc) ++ (F1 ++ (Fd ++ Fb)) := by simp [List.append_assoc]
  rw [e0] at nd
  rw [List.nodup_append] at nd
  obtain ⟨n1, n2, n3⟩ := nd
  rw [List.nodup_append] at n2
  obtain ⟨n4, n5, n6⟩ := n2
  refine ⟨v0, v, F1, (Fa ++ Fc) ++ (Fd ++ Fb), h1, g1, g2, fun a ha => by rw [e0]; simp [ha], n4, fun a ha => ⟨?_, ?_⟩, ?_⟩
  · rw [e0]
    rcases List.mem_append.mp ha with z | z
    · exact List.mem_append_left _ z
    · exact List.mem_append_right _ (List.mem_append_right _ z)
  · intro z
    rcases List.mem_append.mp ha with w | w
    · exact n3 a w a (List.mem_append_left _ z) rfl
    · exact n6 a z a w rfl
  · intro G' H' u' F1' s sg kp q nd1 fr1 fro
    obtain ⟨t', p1, p2⟩ := g4 G' H' u' F1' s (kp.sub fun x hx => by simp at hx ⊢; rcases hx with z | z <;> simp [z]) q
    have es := h5 G' H' t' _ s (kp.sub fun x hx => by simp at hx ⊢; rcases hx with z | z <;> simp [z]) p2
    have e1 : Fa ++ (Fc ++ (F1' ++ Fd) ++ Fb) = (Fa ++ Fc) ++ (F1' ++ (Fd ++ Fb)) := by simp [List.append_assoc]
    rw [e1] at es
    have mem : ∀ a ∈ (Fa ++ Fc) ++ (F1' ++ (Fd ++ Fb)), a ∈ F1' ∨ a ∈ (Fa ++ Fc) ++ (Fd ++ Fb) := fun a ha => by
      rcases List.mem_append.mp ha with z | z
      · exact .inr (List.mem_append_left _ z)
      · rcases List.mem_append.mp z with z | z
        · exact .inl z
        · exact .inr (List.mem_append_right _ z)
    refine ⟨t', _, p1, ⟨es, ?_, fun a ha => ⟨?_, es.alive a ha⟩, sg⟩, mem⟩
    · rw [List.nodup_append]
      refine ⟨n1, List.nodup_append.mpr ⟨nd1, n5, fun a ha b hb z => (fr1 a ha).2 (by subst z; exact List.mem_append_right _ hb)⟩, fun a ha b hb z => ?_⟩
      subst z
      rcases List.mem_append.mp hb with w | w
      · exact (fr1 a w).2 (List.mem_append_left _ ha)
      · exact n3 a ha a (List.mem_append_right _ w) rfl
    · rcases mem a ha with z | z
      · exact (fr1 a z).1
      · exact fro a z
/-- an owned list at a path is changed, its new items owned by what its items owned -/
theorem Rel.lset {env : En} {σ : L2.St} {F : List Addr} {i : Nat} {t : T} {ts : List T} {π : List Stp} (rel : Rel K G H env σ F) (ei : env[i]? = some (some t)) (eu : T.at π t = some (.ml ts)) :
    ∃ v0 a vs Fk, σ[i]? = some (some v0) ∧ VAt H v0 π (.ref a) ∧ H a = some (.lst vs) ∧ TRs K G H ts vs Fk ∧ a ∈ F ∧ Fk.Nodup ∧
      ∀ ts' vs' Fk', TRs K G H ts' vs' Fk' → Fk'.Nodup → (∀ b ∈ Fk', b ∈ Fk) → ∃ t' F', T.put π t (.ml ts') = some t' ∧ Rel K G (upd H a (.lst vs')) (env.set i (some t')) σ F' ∧ ∀ b ∈ F', b ∈ F := by
  obtain ⟨v0, v, F1, Fo, h1, h2, h3, h4, h5, h6, h7⟩ := rel.mut ei eu
  cases h3 with
  | ml h r =>
    rename_i a vs Fk
    refine ⟨v0, a, vs, Fk, h1, h2, h, r, h4 a List.mem_cons_self, (List.nodup_cons.mp h5).2, fun ts' vs' Fk' r' nd' sub => ?_⟩
    have na : a ∉ Fk := (List.nodup_cons.mp h5).1
    have ga : G a = none := (rel.fr a (h4 a List.mem_cons_self)).1
    have kp : ∀ L : List Addr, a ∉ L → Keep L H (upd H a (.lst vs')) := fun L hL b hb o z => by
      rw [upd_ne (fun e => by subst e; exact hL hb)]; exact z
    have fr1 : ∀ b ∈ a :: Fk', G b = none ∧ b ∉ Fo := fun b hb => by
      have hb' : b ∈ a :: Fk := by
        rcases List.mem_cons.mp hb with z | z
        · subst z; exact List.mem_cons_self
        · exact List.mem_cons_of_mem _ (sub b z)
      exact ⟨(rel.fr b (h4 b hb')).1, fun z => (h6 b z).2 hb'⟩
    obtain ⟨t', F', p1, p2, p3⟩ := h7 G (upd H a (.lst vs')) (.ml ts') (a :: Fk') (Same.refl G) (fun b o z => by
        rw [upd_ne (ne_of_none z ga)]; exact rel.sm b o z) (kp Fo fun z => (h6 a z).2 List.mem_cons_self)
      (.ml upd_same (r'.keep (Same.refl G) (kp Fk' fun z => na (sub a z)))) (List.nodup_cons.mpr ⟨fun z => na (sub a z), nd'⟩) fr1 (fun b hb => (rel.fr b (h6 b hb).1).1)
    refine ⟨t', F', p1, p2, fun b hb => ?_⟩
    rcases p3 b hb with z | z
    · rcases List.mem_cons.mp z with z | z
      · subst z; exact h4 b List.mem_cons_self
      · exact h4 b (List.mem_cons_of_mem _ (sub b z))
    · exact (h6 b z).1
/-! lists of trees -/
theorem TRs.append : ∀ {ts us : List T} {vs ws : List V} {F F' : List Addr}, TRs K G H ts vs F → TRs K G H us ws F' → TRs K G H (ts ++ us) (vs ++ ws) (F ++ F')
  | _, _, _, _, _, _, .nil, s => s
  | _, _, _, _, _, _, .cons h r, s => by
    have q := TRs.cons h (TRs.append r s)
    rw [← List.append_assoc] at q
    exact q
theorem TRs.len : ∀ {ts : List T} {vs : List V} {F : List Addr}, TRs K G H ts vs F → vs.length = ts.length
  | _, _, _, .nil => rfl
  | _, _, _, .cons _ r => by simp [r.len]
theorem TRs.setp {v : V} {d : D} (h : Rp K G v d) : ∀ {ts : List T} {vs : List V} {F : List Addr} (k : Nat), TRs K G H ts vs F → ∃ F', TRs K G H (ts.set k (.p d)) (vs.set k v) F' ∧ F'.Sublist F
  | _, _, _, _, .nil => ⟨[], .nil, .slnil⟩
  | _, _, _, 0, .cons _ r => ⟨_, .cons (.p h) r, by simp⟩
  | _, _, _, k + 1, .cons h0 r => by
    obtain ⟨F', h1, h2⟩ := TRs.setp h k r
    exact ⟨_, .cons h0 h1, List.Sublist.append (List.Sublist.refl _) h2⟩
theorem TRs.erase : ∀ {ts : List T} {vs : List V} {F : List Addr} (k : Nat), TRs K G H ts vs F → ∃ F', TRs K G H (ts.eraseIdx k) (vs.eraseIdx k) F' ∧ F'.Sublist F
  | _, _, _, _, .nil => ⟨[], .nil, .slnil⟩
  | _, _, _, 0, .cons _ r => ⟨_, r, by simp⟩
  | _, _, _, k + 1, .cons h0 r => by
    obtain ⟨F', h1, h2⟩ := TRs.erase k r
    exact ⟨_, .cons h0 h1, List.Sublist.append (List.Sublist.refl _) h2⟩
theorem TRs.insert {v : V} {d : D} (h : Rp K G v d) : ∀ {ts : List T} {vs : List V} {F : List Addr} (k : Nat), TRs K G H ts vs F → TRs K G H (ts.take k ++ [.p d] ++ ts.drop k) (vs.take k ++ [v] ++ vs.drop k) F
  | _, _, _, _, .nil => by simp; exact .cons (F := []) (F' := []) (.p h) .nil
  | _, _, _, 0, .cons (F := F1) (F' := F2) h0 r => by
    simp
    have q := TRs.cons (TR.p (H := H) h) (TRs.cons h0 r)
    exact q
  | _, _, _, k + 1, .cons h0 r => by
    have q := TRs.insert h k r
    simp at q ⊢
    exact .cons h0 q
end
end M
/-! M8: statements that change owned trees; owned trees made. -/
namespace M
open PySem PySem.Spec PyProof.Rows L2

/-! ### paths -/
abbrev PMm := En → Option (Nat × List Stp)
def tP (K : PySem.W.Frag) (mp : PMm) : TE := fun σ H Q => ∃ G env F, Rel K G H env σ F ∧ ∃ i π, mp env = some (i, π) ∧ ∀ v v0 H' G', Ext G H G' H' → σ[i]? = some (some v0) → VAt H' v0 π v → Q v H'
abbrev PP (X : Cx) (e : Expr) (mp : PMm) : Prop := PE X e (tP X.K mp)
def slotT (env : En) (i : Nat) : Option T := (env[i]?).join
theorem slotT_eq {env : En} {i : Nat} {t : T} (e : slotT env i = some t) : env[i]? = some (some t) := by
  unfold slotT at e
  cases z : env[i]? with
  | none => rw [z] at e; cases e
  | some o => rw [z] at e; simp at e; rw [e]
def pVar (i : Nat) : PMm := fun env => (slotT env i).map fun _ => (i, [])
def T.own? : T → Option (List T)
  | .ml ts => some ts
  | .tp ts => some ts
  | _ => none
def pIx (mp : PMm) (mi : EM) : PMm := fun env => (mp env).bind fun q => (mi env).bind fun k => k.int?.bind fun k => (slotT env q.1).bind fun t => (T.at q.2 t).bind fun u => u.own?.bind fun ts => (ixN ts.length k).map fun j => (q.1, q.2 ++ [.ix j])
section
variable {X : Cx} {pos : Pos}
theorem pp_var (i : Nat) {x : Str} (hN : X.N[i]? = some x := by rfl) (hv : Vis X.env.scope x := by first | exact Or.inl rfl | exact Or.inr (Or.inl rfl) | exact Or.inr (Or.inr rfl)) (hd : (x == ("__debug__" : Str)) = false := by decide)
    (hcd : (x == ("__classdict__" : Str)) = false := by decide) : PP X (.Name x pos) (pVar i) := by
  refine PE_imp (pe_var hN hv hd hcd) fun σ H Q h => ?_
  obtain ⟨G, env, F, rel, j, π, e, q⟩ := h
  simp only [pVar, Option.map_eq_some_iff] at e
  obtain ⟨t, e1, e2⟩ := e
  cases e2
  obtain ⟨v, F1, Fa, Fb, h1, h2, _⟩ := rel.es.split (slotT_eq e1)
  exact ⟨v, h1, q v v H G (Ext.refl rel.sm) h1 (.nil _)⟩
theorem ixN_at {α : Type} {xs : List α} {k : Int} {j : Nat} {x : α} (e : ixN xs.length k = some j) (h : xs[j]? = some x) : atI xs k = some x := by
  unfold atI
  rw [e]
  exact h
theorem ixN_lt {n : Nat} {k : Int} {j : Nat} (e : ixN n k = some j) : j < n := (ixN_seq e).2.1
theorem pp_ix {a b : Expr} {mp : PMm} {mi : EM} (ha : PP X a mp) (hb : PM X b mi) (hs : PlainIx b) : PP X (.Subscript a b pos) (pIx mp mi) := by
  refine PE_imp (pe_ix ix_seq ha hb hs) fun σ H Q h => ?_
  obtain ⟨G, env, F, rel, i, π, e, q⟩ := h
  simp only [pIx, Option.bind_eq_some_iff, Option.map_eq_some_iff] at e
  obtain ⟨⟨i0, π0⟩, e1, tk, e2, k, e3, t, e4, u, e5, ts, e6, j, e7, e8⟩ := e
  cases e8
  refine ⟨G, env, F, rel, _, _, e1, fun v v0 H1 G1 x1 hs hv => ?_⟩
  refine ⟨G1, env, F, rel.ext x1, tk, e2, fun w H2 G2 F2 x2 r2 => ?_⟩
  have rel2 := (rel.ext x1).ext x2
  obtain ⟨v0', v', F1, Fo, h1, h2, h3, _⟩ := rel2.mut (slotT_eq e4) e5
  have z0 : v0' = v0 := by
    have := h1.symm.trans hs
    cases this
    rfl
  subst z0
  have hv2 := hv.mono x2.hh
  have z1 := hv2.det h2
  subst z1
  have x12 := x1.trans x2
  cases u with
  | ml us =>
    simp only [T.own?, Option.some.injEq] at e6; subst e6
    cases h3 with
    | ml h r =>
      have hj : j < us.length := ixN_lt e7
      obtain ⟨y, Fy, hy, _⟩ := r.args.get (List.getElem?_eq_getElem hj)
      exact .inl ⟨_, _, k, y, rfl, r2.int e3, .inl (.inl h), ixN_at (by rw [r.len]; exact e7) hy, q y v0' H2 G2 x12 hs (hv2.snocL h hy)⟩
  | tp us =>
    simp only [T.own?, Option.some.injEq] at e6; subst e6
    cases h3 with
    | tp h r =>
      have hj : j < us.length := ixN_lt e7
      obtain ⟨y, Fy, hy, _⟩ := r.args.get (List.getElem?_eq_getElem hj)
      exact .inr (.inl ⟨_, _, k, y, rfl, r2.int e3, .inl (.inl h), ixN_at (by rw [r.len]; exact e7) hy, q y v0' H2 G2 x12 hs (hv2.snocT h hy)⟩)
  | _ => simp [T.own?] at e6

/-- an owned list at a path, read and changed: the frame of the rules below -/
theorem lst_at {K : PySem.W.Frag} {G0 R G H : Hp} {env : En} {σ : L2.St} {F : List Addr} {i : Nat} {π : List Stp} {t : T} {ts : List T} {v v0 : V} (rel : Rel K G H env σ F) (hR : ∀ a ∈ F, R a = none) (x0 : Ext G0 R G H)
    (e1 : slotT env i = some t) (e2 : T.at π t = some (.ml ts)) (hs : σ[i]? = some (some v0)) (hv : VAt H v0 π v) :
    ∃ a vs Fk, v = .ref a ∧ H a = some (.lst vs) ∧ TRs K G H ts vs Fk ∧ Fk.Nodup ∧
      ∀ ts' vs' Fk', TRs K G H ts' vs' Fk' → Fk'.Nodup → (∀ b ∈ Fk', b ∈ Fk) → ∃ t', T.put π t (.ml ts') = some t' ∧ SR K G0 R (env.set i (some t')) σ (upd H a (.lst vs')) := by
  obtain ⟨v0', a, vs, Fk, h1, h2, h3, h4, h5, nd, h6⟩ := rel.lset (slotT_eq e1) e2
  have z0 : v0' = v0 := by
    have := h1.symm.trans hs
    cases this
    rfl
  subst z0
  have z1 := hv.det h2
  subst z1
  refine ⟨a, vs, Fk, rfl, h3, h4, nd, fun ts' vs' Fk' r' nd' sub => ?_⟩
  obtain ⟨t', F', p1, p2, p3⟩ := h6 ts' vs' Fk' r' nd' sub
  refine ⟨t', p1, G, F', p2, fun b hb => hR b (p3 b hb), ⟨x0.gg, fun b o z => ?_, p2.sm, x0.fr⟩⟩
  have : b ≠ a := fun q => by subst q; rw [hR b h5] at z; cases z
  rw [upd_ne this]
  exact x0.hh b o z
/-! ### xs.append(e), xs.insert(k, e), xs.extend(e), xs.pop(k), xs[k] = e -/
def updAt (mp : PMm) (f : List T → Option (List T)) : En → Option En := fun env => (mp env).bind fun q => (slotT env q.1).bind fun t => (T.at q.2 t).bind fun u => match u with
  | .ml ts => (f ts).bind fun ts' => (T.put q.2 t (.ml ts')).map fun t' => env.set q.1 (some t')
  | _ => none
theorem updAt_eq {mp : PMm} {f : List T → Option (List T)} {env env' : En} (e : updAt mp f env = some env') : ∃ i π t ts ts' t', mp env = some (i, π) ∧ slotT env i = some t ∧ T.at π t = some (.ml ts) ∧ f ts = some ts' ∧ T.put π t (.ml ts') = some t' ∧ env' = env.set i (some t') := by
  simp only [updAt, Option.bind_eq_some_iff] at e
  obtain ⟨⟨i, π⟩, e1, t, e2, u, e3, e4⟩ := e
  split at e4
  · simp only [Option.bind_eq_some_iff, Option.map_eq_some_iff] at e4
    obtain ⟨ts', e5, t', e6, rfl⟩ := e4
    exact ⟨i, π, t, _, ts', t', e1, e2, e3, e5, e6, rfl⟩
  · cases e4
def sAppend (mp : PMm) (me : EM) : SM := fun env => (me env).bind fun y => y.pure?.bind fun d => (updAt mp (fun ts => if ts.length < LIM then some (ts ++ [.p d]) else none) env).map .nx
variable {o e ie : Expr} {mp : PMm} {me mi : EM} {apos cpos : Pos}
theorem nodup_snoc {F : List Addr} (h : F.Nodup) : (F ++ []).Nodup := by simpa using h
theorem psm_append (ho : PP X o mp) (he : PM X e me) (hbase : attributeBase o "append" X.env (eval o X.env) = eval o X.env := by rfl)
    (hfew : ((backTo cpos (starEach [e] X.env)).all (fun x => !x.1) && (backToKw cpos (keywordEach [] X.env)).all (fun x => x.1.isSome)
      && decide ([e].length + ([] : List Keyword).length + (if ([] : List Keyword).isEmpty then 0 else 1) < 30)) = true := by rfl)
    (hline : (apos.endLine == cpos.line) = true := by rfl) (hs : starEach [e] X.env = (false, eval e X.env) :: starEach [] X.env := by rfl) (hsw : swapsWith (.Call (.Attribute o "append" apos) [e] [] cpos) none pos.line X.env = pure false := by rfl) :
    PSM X (.Expr (.Call (.Attribute o "append" apos) [e] [] cpos) pos) (sAppend mp me) := by
  refine PS_imp (ps_expr (pe_bm PySem.F.plainAttrs_list PySem.F.slot_list_append PySem.F.type_list_append mt_append ho (pam_cons he pam_nil hs) hbase hfew hline hs rfl) hsw) fun D σ H h => ?_
  obtain ⟨G0, R, env, ⟨G, F, rel, hR, x0⟩, o, e, g⟩ := h
  simp only [sAppend, Option.bind_eq_some_iff, Option.map_eq_some_iff] at e
  obtain ⟨y, e1, d, e2, env', e3, rfl⟩ := e
  obtain ⟨i, π, t, ts, ts', t', e4, e5, e6, e7, e8, rfl⟩ := updAt_eq e3
  refine ⟨G, env, F, rel, i, π, e4, fun v v0 H1 G1 x1 hs hv => ?_⟩
  obtain ⟨a, vs, Fk, rfl, ha, _⟩ := lst_at (rel.ext x1) hR (x0.trans x1) e5 e6 hs hv
  refine ⟨.inl ⟨rfl, vs, .inl (.inl ha)⟩, ?_⟩
  refine ⟨G1, env, F, rel.ext x1, [y], by simp [aCons, aNil, e1], fun ws H2 G2 x2 r => ?_⟩
  obtain ⟨w, F', rfl, hw⟩ := r.one
  have rw' := hw.of_pure? e2
  obtain ⟨a', vs', Fk', z, ha', ht, nk, up⟩ := lst_at ((rel.ext x1).ext x2) hR ((x0.trans x1).trans x2) e5 e6 hs (hv.mono x2.hh)
  cases z
  split at e7
  · rename_i hz
    cases e7
    refine ⟨a, vs', w, rfl, rfl, ha', by rw [ht.len]; exact Nat.lt_of_lt_of_le hz LIM_line, ?_⟩
    have q1 := ht.append (TRs.cons (TR.p (H := H2) rw') .nil)
    obtain ⟨t'', p1, p2⟩ := up _ _ _ q1 (by simpa using nk) (fun b hb => by simpa using hb)
    rw [e8] at p1
    cases p1
    exact g σ _ p2
  · cases e7
def insN (ts : List T) (k : Int) (d : D) : Option (List T) := if 0 ≤ k ∧ k < 2 ^ 62 ∧ ts.length < LIM then some (ts.take k.toNat ++ [.p d] ++ ts.drop k.toNat) else none
def sInsert (mp : PMm) (mi me : EM) : SM := fun env => (mi env).bind fun k => k.int?.bind fun k => (me env).bind fun y => y.pure?.bind fun d => (updAt mp (fun ts => insN ts k d) env).map .nx
theorem psm_insert (ho : PP X o mp) (hi : PM X ie mi) (he : PM X e me) (hbase : attributeBase o "insert" X.env (eval o X.env) = eval o X.env := by rfl)
    (hfew : ((backTo cpos (starEach [ie, e] X.env)).all (fun x => !x.1) && (backToKw cpos (keywordEach [] X.env)).all (fun x => x.1.isSome)
      && decide ([ie, e].length + ([] : List Keyword).length + (if ([] : List Keyword).isEmpty then 0 else 1) < 30)) = true := by rfl)
    (hline : (apos.endLine == cpos.line) = true := by rfl) (hs : starEach [ie, e] X.env = (false, eval ie X.env) :: starEach [e] X.env := by rfl) (hs2 : starEach [e] X.env = (false, eval e X.env) :: starEach [] X.env := by rfl) (hpl : (backTo cpos (starEach [e] X.env)).any (·.1) = false := by rfl)
    (hsw : swapsWith (.Call (.Attribute o "insert" apos) [ie, e] [] cpos) none pos.line X.env = pure false := by rfl) :
    PSM X (.Expr (.Call (.Attribute o "insert" apos) [ie, e] [] cpos) pos) (sInsert mp mi me) := by
  refine PS_imp (ps_expr (pe_bm PySem.F.plainAttrs_list PySem.F.slot_list_insert PySem.F.type_list_insert mt_insert ho (pam_cons hi (pam_cons he pam_nil hs2) hs) hbase hfew hline hs hpl) hsw) fun D σ H h => ?_
  obtain ⟨G0, R, env, ⟨G, F, rel, hR, x0⟩, o, e, g⟩ := h
  simp only [sInsert, Option.bind_eq_some_iff, Option.map_eq_some_iff] at e
  obtain ⟨tk, ek, k, ek2, y, e1, d, e2, env', e3, rfl⟩ := e
  obtain ⟨i, π, t, ts, ts', t', e4, e5, e6, e7, e8, rfl⟩ := updAt_eq e3
  refine ⟨G, env, F, rel, i, π, e4, fun v v0 H1 G1 x1 hs hv => ?_⟩
  obtain ⟨a, vs, Fk, rfl, ha, _⟩ := lst_at (rel.ext x1) hR (x0.trans x1) e5 e6 hs hv
  refine ⟨.inl ⟨rfl, vs, .inl (.inl ha)⟩, ?_⟩
  refine ⟨G1, env, F, rel.ext x1, [tk, y], by simp [aCons, aNil, e1, ek], fun ws H2 G2 x2 r => ?_⟩
  obtain ⟨w0, w, F0, F', rfl, hw0, hw⟩ := r.two
  have rw' := hw.of_pure? e2
  obtain ⟨a', vs', Fk', z, ha', ht, nk, up⟩ := lst_at ((rel.ext x1).ext x2) hR ((x0.trans x1).trans x2) e5 e6 hs (hv.mono x2.hh)
  cases z
  unfold insN at e7
  split at e7
  · rename_i hz
    cases e7
    refine ⟨a, vs', k, w, rfl, by rw [hw0.int ek2], ha', by rw [ht.len]; exact Nat.lt_of_lt_of_le hz.2.2 LIM_line, hz.1, by omega, ?_⟩
    have q1 := ht.insert rw' k.toNat
    obtain ⟨t'', p1, p2⟩ := up _ _ _ q1 nk (fun b hb => hb)
    rw [e8] at p1
    cases p1
    exact g σ _ p2
  · cases e7
/-- xs[k] = e -/
def setN (ts : List T) (k : Int) (d : D) : Option (List T) := (ixN ts.length k).map fun j => ts.set j (.p d)
def sSetIx (mp : PMm) (mi me : EM) : SM := fun env => (mi env).bind fun k => k.int?.bind fun k => (me env).bind fun y => y.pure?.bind fun d => (updAt mp (fun ts => setN ts k d) env).map .nx
theorem psm_setIx {tpos : Pos} (ho : PP X o mp) (hi : PM X ie mi) (he : PM X e me)
    (ha : ∀ v, assign (.Subscript o ie tpos) X.env v = (do
      let ov ← holding [v] (eval o X.env)
      let iv ← holding [v, ov] (eval ie X.env)
      standAt tpos
      holding [v, ov, iv] (setItem ov iv v)
      release [v, ov, iv] []) := by intro _; rfl)
    (hs : swapsWithSole [.Subscript o ie tpos] e pos.line X.env = pure false := by rfl) (hw : swappedStores [.Subscript o ie tpos] e X.env = pure none := by rfl)
    (h1 : (assignEach [.Subscript o ie tpos] X.env).map (·.2) = [assign (.Subscript o ie tpos) X.env] := by rfl) : PSM X (.Assign [.Subscript o ie tpos] e pos) (sSetIx mp mi me) := by
  refine PS_imp (ps_asg he (pg_sub ho hi set_list ha) hs hw h1) fun D σ H h => ?_
  obtain ⟨G0, R, env, ⟨G, F, rel, hR, x0⟩, o, e, g⟩ := h
  simp only [sSetIx, Option.bind_eq_some_iff, Option.map_eq_some_iff] at e
  obtain ⟨tk, ek, k, ek2, y, e1, d, e2, env', e3, rfl⟩ := e
  obtain ⟨i, π, t, ts, ts', t', e4, e5, e6, e7, e8, rfl⟩ := updAt_eq e3
  refine ⟨G, env, F, rel, y, e1, fun w H1 G1 F1 x1 r1 => ?_⟩
  refine ⟨G1, env, F, rel.ext x1, i, π, e4, fun v v0 H2 G2 x2 hs hv => ?_⟩
  refine ⟨G2, env, F, (rel.ext x1).ext x2, tk, ek, fun kv H3 G3 F3 x3 r3 => ?_⟩
  have x23 := x2.trans x3
  obtain ⟨a', vs', Fk', rfl, ha', ht, nk, up⟩ := lst_at (((rel.ext x1).ext x2).ext x3) hR (((x0.trans x1).trans x2).trans x3) e5 e6 hs (hv.mono x3.hh)
  simp only [setN, Option.map_eq_some_iff] at e7
  obtain ⟨j, e9, rfl⟩ := e7
  refine ⟨a', vs', k, j, rfl, r3.int ek2, ha', by rw [ht.len]; exact e9, ?_⟩
  obtain ⟨F4, q1, q2⟩ := ht.setp ((r1.of_pure? e2).mono x23.gg) j
  obtain ⟨t'', p1, p2⟩ := up _ _ _ q1 (nk.sublist q2) (fun b hb => q2.subset hb)
  rw [e8] at p1
  cases p1
  exact g σ _ p2
/-- xs.pop(k), its value dropped -/
def sPopAt (mp : PMm) (mi : EM) : SM := fun env => (mi env).bind fun k => k.int?.bind fun k => if -(2 ^ 62) ≤ k ∧ k < 2 ^ 62 then (updAt mp (fun ts => (ixN ts.length k).map fun j => ts.eraseIdx j) env).map .nx else none
theorem psm_popAt (ho : PP X o mp) (hi : PM X ie mi) (hbase : attributeBase o "pop" X.env (eval o X.env) = eval o X.env := by rfl)
    (hfew : ((backTo cpos (starEach [ie] X.env)).all (fun x => !x.1) && (backToKw cpos (keywordEach [] X.env)).all (fun x => x.1.isSome)
      && decide ([ie].length + ([] : List Keyword).length + (if ([] : List Keyword).isEmpty then 0 else 1) < 30)) = true := by rfl)
    (hline : (apos.endLine == cpos.line) = true := by rfl) (hs : starEach [ie] X.env = (false, eval ie X.env) :: starEach [] X.env := by rfl) (hsw : swapsWith (.Call (.Attribute o "pop" apos) [ie] [] cpos) none pos.line X.env = pure false := by rfl) :
    PSM X (.Expr (.Call (.Attribute o "pop" apos) [ie] [] cpos) pos) (sPopAt mp mi) := by
  refine PS_imp (ps_expr (pe_bm PySem.F.plainAttrs_list PySem.F.slot_list_pop PySem.F.type_list_pop mt_popAt ho (pam_cons hi pam_nil hs) hbase hfew hline hs rfl) hsw) fun D σ H h => ?_
  obtain ⟨G0, R, env, ⟨G, F, rel, hR, x0⟩, o, e, g⟩ := h
  simp only [sPopAt, Option.bind_eq_some_iff] at e
  obtain ⟨tk, ek, k, ek2, e⟩ := e
  split at e
  · rename_i hk
    rw [Option.map_eq_some_iff] at e
    obtain ⟨env', e3, rfl⟩ := e
    obtain ⟨i, π, t, ts, ts', t', e4, e5, e6, e7, e8, rfl⟩ := updAt_eq e3
    refine ⟨G, env, F, rel, i, π, e4, fun v v0 H1 G1 x1 hs hv => ?_⟩
    obtain ⟨a, vs, Fk, rfl, ha, _⟩ := lst_at (rel.ext x1) hR (x0.trans x1) e5 e6 hs hv
    refine ⟨.inl ⟨rfl, vs, .inl (.inl ha)⟩, ?_⟩
    refine ⟨G1, env, F, rel.ext x1, [tk], by simp [aCons, aNil, ek], fun ws H2 G2 x2 r => ?_⟩
    obtain ⟨w0, F0, rfl, hw0⟩ := r.one
    obtain ⟨a', vs', Fk', z, ha', ht, nk, up⟩ := lst_at ((rel.ext x1).ext x2) hR ((x0.trans x1).trans x2) e5 e6 hs (hv.mono x2.hh)
    cases z
    rw [Option.map_eq_some_iff] at e7
    obtain ⟨j, e9, rfl⟩ := e7
    obtain ⟨s1, s2, s3, s4⟩ := ixN_seq e9
    have hj : j < vs'.length := by rw [ht.len]; exact s2
    refine ⟨a, vs', k, j, vs'[j], rfl, by rw [hw0.int ek2], ha', by omega, by omega, by rw [ht.len]; exact s1, List.getElem?_eq_getElem hj, ?_⟩
    obtain ⟨F4, q1, q2⟩ := ht.erase j
    obtain ⟨t'', p1, p2⟩ := up _ _ _ q1 (nk.sublist q2) (fun b hb => q2.subset hb)
    rw [e8] at p1
    cases p1
    exact g σ _ p2
  · cases e
/-- x = xs.pop(k); x another slot -/
def popN (mp : PMm) (k : Int) (env : En) : Option (En × D) := (mp env).bind fun q => (slotT env q.1).bind fun t => (T.at q.2 t).bind fun u => match u with
  | .ml ts => (ixN ts.length k).bind fun j => (ts[j]?).bind fun y => y.pure?.bind fun d => (T.put q.2 t (.ml (ts.eraseIdx j))).map fun t' => (env.set q.1 (some t'), d)
  | _ => none
theorem popN_eq {mp : PMm} {k : Int} {env env' : En} {d : D} (e : popN mp k env = some (env', d)) : ∃ i π t ts j t', mp env = some (i, π) ∧ slotT env i = some t ∧ T.at π t = some (.ml ts) ∧ ixN ts.length k = some j ∧ ts[j]? = some (.p d) ∧ T.put π t (.ml (ts.eraseIdx j)) = some t' ∧ env' = env.set i (some t') := by
  simp only [popN, Option.bind_eq_some_iff] at e
  obtain ⟨⟨i, π⟩, e1, t, e2, u, e3, e4⟩ := e
  split at e4
  · simp only [Option.bind_eq_some_iff, Option.map_eq_some_iff] at e4
    obtain ⟨j, e5, y, e6, d', e7, t', e8, e9⟩ := e4
    cases e9
    cases y with
    | p d2 => simp [T.pure?] at e7; subst e7; exact ⟨i, π, t, _, j, t', e1, e2, e3, e5, e6, e8, rfl⟩
    | _ => simp [T.pure?] at e7
  · cases e4
def sSetPopAt (x : Nat) (mp : PMm) (mi : EM) : SM := fun env => (mi env).bind fun k => k.int?.bind fun k => if -(2 ^ 62) ≤ k ∧ k < 2 ^ 62 then (popN mp k env).map fun r => .nx (r.1.set x (some (.p r.2))) else none
def sSetPop (x : Nat) (mp : PMm) : SM := fun env => (popN mp (-1) env).map fun r => .nx (r.1.set x (some (.p r.2)))
theorem SR.putp' {K : PySem.W.Frag} {G0 R H : Hp} {env : En} {σ : L2.St} (s : SR K G0 R env σ H) (i : Nat) {v : V} {d : D} (h : ∀ G, (∃ F, Rel K G H env σ F) → Ext G0 R G H → Rp K G v d) : SR K G0 R (env.set i (some (.p d))) (σ.set i (some v)) H := by
  obtain ⟨G, F, rel, hR, x0⟩ := s
  exact SR.putp rel hR x0 i (h G ⟨F, rel⟩ x0)
theorem lst_atG {K : PySem.W.Frag} {G0 R G H : Hp} {env : En} {σ : L2.St} {F : List Addr} {i : Nat} {π : List Stp} {t : T} {ts : List T} {v v0 : V} (rel : Rel K G H env σ F) (hR : ∀ a ∈ F, R a = none) (x0 : Ext G0 R G H)
    (e1 : slotT env i = some t) (e2 : T.at π t = some (.ml ts)) (hs : σ[i]? = some (some v0)) (hv : VAt H v0 π v) :
    ∃ a vs Fk, v = .ref a ∧ H a = some (.lst vs) ∧ TRs K G H ts vs Fk ∧ Fk.Nodup ∧
      ∀ ts' vs' Fk', TRs K G H ts' vs' Fk' → Fk'.Nodup → (∀ b ∈ Fk', b ∈ Fk) → ∃ t' F', T.put π t (.ml ts') = some t' ∧ Rel K G (upd H a (.lst vs')) (env.set i (some t')) σ F' ∧ (∀ a ∈ F', R a = none) ∧ Ext G0 R G (upd H a (.lst vs')) := by
  obtain ⟨v0', a, vs, Fk, h1, h2, h3, h4, h5, nd, h6⟩ := rel.lset (slotT_eq e1) e2
  have z0 : v0' = v0 := by
    have := h1.symm.trans hs
    cases this
    rfl
  subst z0
  have z1 := hv.det h2
  subst z1
  refine ⟨a, vs, Fk, rfl, h3, h4, nd, fun ts' vs' Fk' r' nd' sub => ?_⟩
  obtain ⟨t', F', p1, p2, p3⟩ := h6 ts' vs' Fk' r' nd' sub
  refine ⟨t', F', p1, p2, fun b hb => hR b (p3 b hb), ⟨x0.gg, fun b o z => ?_, p2.sm, x0.fr⟩⟩
  have : b ≠ a := fun q => by subst q; rw [hR b h5] at z; cases z
  rw [upd_ne this]
  exact x0.hh b o z
theorem psm_setPopAt {x : Str} {j : Nat} {pos' : Pos} (hN : X.N.Nodup) (ho : PP X o mp) (hi : PM X ie mi) (hj : X.N[j]? = some x := by rfl) (hx : Loc X.env.scope x := by first | exact Or.inl rfl | exact Or.inr rfl) (hbase : attributeBase o "pop" X.env (eval o X.env) = eval o X.env := by rfl)
    (hfew : ((backTo cpos (starEach [ie] X.env)).all (fun x => !x.1) && (backToKw cpos (keywordEach [] X.env)).all (fun x => x.1.isSome)
      && decide ([ie].length + ([] : List Keyword).length + (if ([] : List Keyword).isEmpty then 0 else 1) < 30)) = true := by rfl)
    (hline : (apos.endLine == cpos.line) = true := by rfl) (hs : starEach [ie] X.env = (false, eval ie X.env) :: starEach [] X.env := by rfl) (hsw : swapsWith (.Call (.Attribute o "pop" apos) [ie] [] cpos) (some (.Name x pos')) pos.line X.env = pure false := by rfl)
    (hf : X.fn x = true ∨ X.env.scope.names.lookup x = some .local := by first | exact .inl rfl | exact .inr rfl | assumption) :
    PSM X (.Assign [.Name x pos'] (.Call (.Attribute o "pop" apos) [ie] [] cpos) pos) (sSetPopAt j mp mi) := by
  refine PS_imp (ps_set hN hj hx (pe_bm PySem.F.plainAttrs_list PySem.F.slot_list_pop PySem.F.type_list_pop mt_popAt ho (pam_cons hi pam_nil hs) hbase hfew hline hs rfl) hsw hf) fun D σ H h => ?_
  obtain ⟨G0, R, env, ⟨G, F, rel, hR, x0⟩, o, e, g⟩ := h
  simp only [sSetPopAt, Option.bind_eq_some_iff] at e
  obtain ⟨tk, ek, k, ek2, e⟩ := e
  split at e
  · rename_i hk
    rw [Option.map_eq_some_iff] at e
    obtain ⟨⟨env', d⟩, e3, rfl⟩ := e
    obtain ⟨i, π, t, ts, j, t', e4, e5, e6, e7, e8, e9, rfl⟩ := popN_eq e3
    refine ⟨G, env, F, rel, i, π, e4, fun v v0 H1 G1 x1 hs hv => ?_⟩
    obtain ⟨a, vs, Fk, rfl, ha, _⟩ := lst_at (rel.ext x1) hR (x0.trans x1) e5 e6 hs hv
    refine ⟨.inl ⟨rfl, vs, .inl (.inl ha)⟩, ?_⟩
    refine ⟨G1, env, F, rel.ext x1, [tk], by simp [aCons, aNil, ek], fun ws H2 G2 x2 r => ?_⟩
    obtain ⟨w0, F0, rfl, hw0⟩ := r.one
    obtain ⟨a', vs', Fk', z, ha', ht, nk, up⟩ := lst_atG ((rel.ext x1).ext x2) hR ((x0.trans x1).trans x2) e5 e6 hs (hv.mono x2.hh)
    cases z
    obtain ⟨s1, s2, s3, s4⟩ := ixN_seq e7
    obtain ⟨y, Fy, hy, ry⟩ := ht.args.get e8
    refine ⟨a, vs', k, j, y, rfl, by rw [hw0.int ek2], ha', by omega, by omega, by rw [ht.len]; exact s1, hy, ?_⟩
    obtain ⟨F4, q1, q2⟩ := ht.erase j
    obtain ⟨t'', F5, p1, p2, p3, p4⟩ := up _ _ _ q1 (nk.sublist q2) (fun b hb => q2.subset hb)
    rw [e9] at p1
    cases p1
    exact g _ _ (SR.putp p2 p3 p4 _ ry.pure)
  · cases e
theorem psm_setPop {x : Str} {j : Nat} {pos' : Pos} (hN : X.N.Nodup) (ho : PP X o mp) (hj : X.N[j]? = some x := by rfl) (hx : Loc X.env.scope x := by first | exact Or.inl rfl | exact Or.inr rfl) (hbase : attributeBase o "pop" X.env (eval o X.env) = eval o X.env := by rfl)
    (hline : (apos.endLine == cpos.line) = true := by rfl) (hsw : swapsWith (.Call (.Attribute o "pop" apos) [] [] cpos) (some (.Name x pos')) pos.line X.env = pure false := by rfl)
    (hf : X.fn x = true ∨ X.env.scope.names.lookup x = some .local := by first | exact .inl rfl | exact .inr rfl | assumption) :
    PSM X (.Assign [.Name x pos'] (.Call (.Attribute o "pop" apos) [] [] cpos) pos) (sSetPop j mp) := by
  refine PS_imp (ps_set hN hj hx (pe_bm0 PySem.F.plainAttrs_list PySem.F.slot_list_pop PySem.F.type_list_pop mt_pop ho hbase hline) hsw hf) fun D σ H h => ?_
  obtain ⟨G0, R, env, ⟨G, F, rel, hR, x0⟩, o, e, g⟩ := h
  simp only [sSetPop, Option.map_eq_some_iff] at e
  obtain ⟨⟨env', d⟩, e3, rfl⟩ := e
  obtain ⟨i, π, t, ts, j, t', e4, e5, e6, e7, e8, e9, rfl⟩ := popN_eq e3
  refine ⟨G, env, F, rel, i, π, e4, fun v v0 H1 G1 x1 hs hv => ?_⟩
  obtain ⟨a', vs', Fk', rfl, ha', ht, nk, up⟩ := lst_atG (rel.ext x1) hR (x0.trans x1) e5 e6 hs hv
  refine ⟨.inl ⟨rfl, vs', .inl (.inl ha')⟩, ?_⟩
  obtain ⟨s1, s2, s3, s4⟩ := ixN_seq e7
  have hj : j = ts.length - 1 := by
    unfold ixN at e7
    rw [if_neg (by omega), if_pos (by omega)] at e7
    cases e7
    omega
  obtain ⟨y, Fy, hy, ry⟩ := ht.args.get e8
  refine ⟨a', vs', y, rfl, rfl, ha', by rw [ht.len, ← hj]; exact hy, ?_⟩
  obtain ⟨F4, q1, q2⟩ := ht.erase j
  have hd : vs'.dropLast = vs'.eraseIdx j := by
    rw [hj, ← ht.len]
    exact (PyProof.Rows.Copied.eraseIdx_last vs').symm
  rw [hd]
  obtain ⟨t'', F5, p1, p2, p3, p4⟩ := up _ _ _ q1 (nk.sublist q2) (fun b hb => q2.subset hb)
  rw [e9] at p1
  cases p1
  exact g _ _ (SR.putp p2 p3 p4 _ ry.pure)
/-- xs.extend(e) -/
def sExtend (mp : PMm) (me : EM) : SM := fun env => (me env).bind fun y => match y with
  | .p (.list ds) => (updAt mp (fun ts => if ts.length + ds.length ≤ LIM then some (ts ++ ds.map T.p) else none) env).map .nx
  | _ => none
theorem psm_extend (ho : PP X o mp) (he : PM X e me) (hbase : attributeBase o "extend" X.env (eval o X.env) = eval o X.env := by rfl)
    (hfew : ((backTo cpos (starEach [e] X.env)).all (fun x => !x.1) && (backToKw cpos (keywordEach [] X.env)).all (fun x => x.1.isSome)
      && decide ([e].length + ([] : List Keyword).length + (if ([] : List Keyword).isEmpty then 0 else 1) < 30)) = true := by rfl)
    (hline : (apos.endLine == cpos.line) = true := by rfl) (hs : starEach [e] X.env = (false, eval e X.env) :: starEach [] X.env := by rfl) (hsw : swapsWith (.Call (.Attribute o "extend" apos) [e] [] cpos) none pos.line X.env = pure false := by rfl) :
    PSM X (.Expr (.Call (.Attribute o "extend" apos) [e] [] cpos) pos) (sExtend mp me) := by
  refine PS_imp (ps_expr (pe_bm PySem.F.plainAttrs_list PySem.F.slot_list_extend PySem.F.type_list_extend mt_extend ho (pam_cons he pam_nil hs) hbase hfew hline hs rfl) hsw) fun D σ H h => ?_
  obtain ⟨G0, R, env, ⟨G, F, rel, hR, x0⟩, o, e, g⟩ := h
  simp only [sExtend, Option.bind_eq_some_iff] at e
  obtain ⟨y, e1, e⟩ := e
  split at e
  · rename_i ds
    rw [Option.map_eq_some_iff] at e
    obtain ⟨env', e3, rfl⟩ := e
    obtain ⟨i, π, t, ts, ts', t', e4, e5, e6, e7, e8, rfl⟩ := updAt_eq e3
    refine ⟨G, env, F, rel, i, π, e4, fun v v0 H1 G1 x1 hs hv => ?_⟩
    obtain ⟨a, vs, Fk, rfl, ha, _⟩ := lst_at (rel.ext x1) hR (x0.trans x1) e5 e6 hs hv
    refine ⟨.inl ⟨rfl, vs, .inl (.inl ha)⟩, ?_⟩
    refine ⟨G1, env, F, rel.ext x1, [.p (.list ds)], by simp [aCons, aNil, e1], fun ws H2 G2 x2 r => ?_⟩
    obtain ⟨w, F', rfl, hw⟩ := r.one
    obtain ⟨a', vs', Fk', z, ha', ht, nk, up⟩ := lst_at ((rel.ext x1).ext x2) hR ((x0.trans x1).trans x2) e5 e6 hs (hv.mono x2.hh)
    cases z
    split at e7
    · rename_i hz
      cases e7
      cases hw.pure with
      | lst hb rb =>
        rename_i bb zs
        refine ⟨a, bb, vs', zs, rfl, rfl, ha', x2.gh _ _ hb, by rw [ht.len, rb.length]; exact Nat.le_trans hz LIM_line, ?_⟩
        have q1 := ht.append (TRs.of_pures (H := H2) rb)
        obtain ⟨t'', p1, p2⟩ := up _ _ _ q1 (by simpa using nk) (fun b hb => by simpa using hb)
        rw [e8] at p1
        cases p1
        exact g σ _ p2
    · cases e7
  · cases e
end

/-! ### owned trees made -/
def tF (K : PySem.W.Frag) (m : EM) : TE := fun σ H Q => ∃ G env F, Rel K G H env σ F ∧ ∃ t, m env = some t ∧ ∀ v H' G' F', Ext G H G' H' → TR K G' H' t v F' → F'.Nodup → (∀ a ∈ F', G' a = none ∧ H a = none) → Q v H'
abbrev PF (X : Cx) (e : Expr) (m : EM) : Prop := PE X e (tF X.K m)
def tAF (K : PySem.W.Frag) (m : En → Option (List T)) : TA := fun σ H Q => ∃ G env F, Rel K G H env σ F ∧ ∃ ts, m env = some ts ∧ ∀ vs H' G' F', Ext G H G' H' → TRs K G' H' ts vs F' → F'.Nodup → (∀ a ∈ F', G' a = none ∧ H a = none) → Q vs H'
abbrev PAF (X : Cx) (es : List Expr) (m : En → Option (List T)) : Prop := PA X es (tAF X.K m)
section
variable {X : Cx} {pos : Pos} {e : Expr} {es : List Expr} {me : EM} {ms : En → Option (List T)}
def mPure (m : EM) : EM := fun env => (m env).bind fun t => t.pure?.map T.p
theorem pf_pure (h : PM X e me) : PF X e (mPure me) := by
  refine PE_imp h fun σ H Q h => ?_
  obtain ⟨G, env, F, rel, t, e1, q⟩ := h
  simp only [mPure, Option.bind_eq_some_iff, Option.map_eq_some_iff] at e1
  obtain ⟨u, e2, d, e3, rfl⟩ := e1
  exact ⟨G, env, F, rel, u, e2, fun v H' G' F' x r => q v H' G' [] x (.p (r.of_pure? e3)) .nil (fun _ z => nomatch z)⟩
theorem paf_nil : PAF X [] aNil := by
  refine PA_imp pa_nil fun σ H Q h => ?_
  obtain ⟨G, env, F, rel, ts, e, q⟩ := h
  cases e
  exact q [] H G [] (Ext.refl rel.sm) .nil .nil (fun _ z => nomatch z)
theorem Ext.not {G H G' H' : Hp} (x : Ext G H G' H') {a : Addr} (g : G a = none) (h : H a ≠ none) : G' a = none := by
  cases z : G' a with
  | none => rfl
  | some o =>
    rcases x.fr a (by rw [z]; exact Option.some_ne_none o) with w | w
    · exact absurd g w
    · exact absurd w h
theorem paf_cons (ha : PF X e me) (hr : PAF X es ms) (hs : starEach (e :: es) X.env = (false, eval e X.env) :: starEach es X.env := by rfl) : PAF X (e :: es) (aCons me ms) := by
  refine PA_imp (pa_cons ha hr hs) fun σ H Q h => ?_
  obtain ⟨G, env, F, rel, ts, e1, q⟩ := h
  simp only [aCons, Option.bind_eq_some_iff, Option.map_eq_some_iff] at e1
  obtain ⟨t, e2, tr, e3, rfl⟩ := e1
  refine ⟨G, env, F, rel, t, e2, fun x H1 G1 F1 x1 r1 n1 f1 => ?_⟩
  refine ⟨G1, env, F, rel.ext x1, tr, e3, fun ys H2 G2 F2 x2 r2 n2 f2 => ?_⟩
  refine q (x :: ys) H2 G2 (F1 ++ F2) (x1.trans x2) (.cons (r1.keep x2.gg (Keep.of x2.hh)) r2) (List.nodup_append.mpr ⟨n1, n2, fun a ha b hb z => ?_⟩) fun a ha => ?_
  · subst z
    exact r1.alive a ha (f2 a hb).2
  · rcases List.mem_append.mp ha with z | z
    · exact ⟨x2.not (f1 a z).1 (r1.alive a z), (f1 a z).2⟩
    · exact ⟨(f2 a z).1, x1.hh.free (f2 a z).2⟩
def mLstF (ms : En → Option (List T)) : EM := fun env => (ms env).bind fun ts => if ts.length ≤ LIM then some (.ml ts) else none
theorem pf_lst (h : PAF X es ms) : PF X (.List es pos) (mLstF ms) := by
  refine PE_imp (pe_lst h) fun σ H Q q => ?_
  obtain ⟨G, env, F, rel, t, e1, q⟩ := q
  simp only [mLstF, Option.bind_eq_some_iff] at e1
  obtain ⟨ts, e2, e4⟩ := e1
  split at e4
  · rename_i hz
    cases e4
    refine ⟨G, env, F, rel, ts, e2, fun vs H1 G1 F1 x1 r1 n1 f1 => ?_⟩
    refine ⟨by rw [r1.len]; exact Nat.le_trans hz LIM_line, fun p np => ?_⟩
    have x2 := Ext.fresh (o := .lst vs) x1.gh np
    refine q _ _ _ (p :: F1) (x1.trans x2) (.ml upd_same (r1.keep x2.gg (Keep.of x2.hh))) (List.nodup_cons.mpr ⟨fun z => r1.alive p z np, n1⟩) fun a ha => ?_
    rcases List.mem_cons.mp ha with z | z
    · subst z; exact ⟨x1.gh.free np, x1.hh.free np⟩
    · exact f1 a z
  · cases e4
/-- list(e) -/
def mListF (m : EM) : EM := fun env => (m env).bind fun t => t.any?.map fun ds => .ml (ds.map T.p)
theorem pf_list {p : Pos} (hg : Gl X "list") (hm : X.mg "list" = none) (he : PM X e me) (hs : starEach [e] X.env = (false, eval e X.env) :: starEach [] X.env := by rfl) : PF X (.Call (.Name "list" p) [e] [] pos) (mListF me) := by
  refine PE_imp (pe_callTy call_list_of hg hm boot_list (pam_cons he pam_nil hs) (by decide) (by decide) hs rfl) fun σ H Q h => ?_
  obtain ⟨G, env, F, rel, t, e1, q⟩ := h
  simp only [mListF, Option.bind_eq_some_iff, Option.map_eq_some_iff] at e1
  obtain ⟨u, e2, ds, e3, rfl⟩ := e1
  refine ⟨G, env, F, rel, [u], by simp [aCons, aNil, e2], fun vs H1 G1 x1 r => ?_⟩
  obtain ⟨v, F', rfl, h⟩ := r.one
  obtain ⟨a, vs, rfl, h1, p1⟩ := h.any x1.gh e3
  refine ⟨a, vs, rfl, h1, fun l nl => ?_⟩
  have x2 := Ext.fresh (o := .lst vs) x1.gh nl
  refine q _ _ _ [l] (x1.trans x2) (.ml upd_same (TRs.of_pures p1)) (by simp) fun b hb => ?_
  have : b = l := by simpa using hb
  subst this
  exact ⟨x1.gh.free nl, x1.hh.free nl⟩
/-- list(range(e)) -/
def mListR1F (m : EM) : EM := fun env => (mListR1 m env).bind fun t => match t with
  | .p (.list ds) => some (.ml (ds.map T.p))
  | _ => none
theorem pf_listR1 {p p2 p3 : Pos} (hc : X.calm = true) (hg : Gl X "list") (hm : X.mg "list" = none) (hg2 : Gl X "range") (hm2 : X.mg "range" = none) (he : PM X e me) (na : starEach [e] X.env = (false, eval e X.env) :: starEach [] X.env := by rfl) :
    PF X (.Call (.Name "list" p) [.Call (.Name "range" p2) [e] [] p3] [] pos) (mListR1F me) := by
  refine PE_imp (pe_listRg hc hg hm (prg_1 hg2 hm2 he na)) fun σ H Q h => ?_
  obtain ⟨G, env, F, rel, t, e1, q⟩ := h
  simp only [mListR1F, mListR1, Option.bind_eq_some_iff] at e1
  obtain ⟨t0, ⟨t1, e2, j, e3, e4⟩, e5⟩ := e1
  split at e4
  · rename_i hz
    cases e4
    cases e5
    refine ⟨G, env, F, rel, t1, e2, fun x H1 G1 F1 x1 r1 => ?_⟩
    refine ⟨j, r1.int e3, ⟨by omega, by omega, by omega, by omega, by omega⟩, fun l nl => ?_⟩
    have x2 := Ext.fresh (o := .lst (rgV 0 j)) x1.gh nl
    refine q _ _ _ [l] (x1.trans x2) (.ml upd_same (TRs.of_pures (Rps.rng 0 j))) (by simp) fun b hb => ?_
    have : b = l := by simpa using hb
    subst this
    exact ⟨x1.gh.free nl, x1.hh.free nl⟩
  · cases e4
/-- [c] * n, a + b: made lists -/
def mRepF (a b : EM) : EM := fun env => (a env).bind fun x => (b env).bind fun y => x.lst?.bind fun xs => y.int?.bind fun j => if -(2 ^ 62) ≤ j ∧ j < 2 ^ 62 ∧ xs.length * j.toNat ≤ LIM then some (.ml ((List.replicate j.toNat xs).flatten.map T.p)) else none
variable {b : Expr} {mb : EM}
theorem pf_rep (ha : PM X e me) (hb : PM X b mb) : PF X (.BinOp e .Mult b pos) (mRepF me mb) := by
  refine PE_imp (pe_op op_rep ha hb) fun σ H Q h => ?_
  obtain ⟨G, env, F, rel, t, e1, q⟩ := h
  simp only [mRepF, Option.bind_eq_some_iff] at e1
  obtain ⟨x, e2, y, e3, xs, e4, j, e5, e6⟩ := e1
  split at e6
  · rename_i hz
    cases e6
    refine ⟨G, env, F, rel, x, e2, fun v H1 G1 F1 x1 r1 => ⟨G1, env, F, rel.ext x1, y, e3, fun w H2 G2 F2 x2 r2 => ?_⟩⟩
    obtain ⟨a, vs, rfl, h1, p1⟩ := (r1.keep x2.gg (Keep.of x2.hh)).lst x2.gh e4
    refine ⟨a, j, vs, rfl, r2.int e5, h1, by omega, by omega, by rw [p1.length]; exact Nat.le_trans hz.2.2 LIM_line, fun l nl => ?_⟩
    have x3 := Ext.fresh (o := .lst (List.replicate j.toNat vs).flatten) x2.gh nl
    refine q _ _ _ [l] ((x1.trans x2).trans x3) (.ml upd_same (TRs.of_pures (p1.rep _))) (by simp) fun c hc => ?_
    have : c = l := by simpa using hc
    subst this
    exact ⟨x2.gh.free nl, x1.hh.free (x2.hh.free nl)⟩
  · cases e6
def mCatF (a b : EM) : EM := fun env => (a env).bind fun x => (b env).bind fun y => x.lst?.bind fun xs => y.lst?.bind fun ys => if xs.length + ys.length ≤ LIM then some (.ml ((xs ++ ys).map T.p)) else none
theorem pf_cat (ha : PM X e me) (hb : PM X b mb) : PF X (.BinOp e .Add b pos) (mCatF me mb) := by
  refine PE_imp (pe_op op_cat ha hb) fun σ H Q h => ?_
  obtain ⟨G, env, F, rel, t, e1, q⟩ := h
  simp only [mCatF, Option.bind_eq_some_iff] at e1
  obtain ⟨x, e2, y, e3, xs, e4, ys, e5, e6⟩ := e1
  split at e6
  · rename_i hz
    cases e6
    refine ⟨G, env, F, rel, x, e2, fun v H1 G1 F1 x1 r1 => ⟨G1, env, F, rel.ext x1, y, e3, fun w H2 G2 F2 x2 r2 => ?_⟩⟩
    obtain ⟨a, vs, rfl, h1, p1⟩ := (r1.keep x2.gg (Keep.of x2.hh)).lst x2.gh e4
    obtain ⟨a2, ws, rfl, h2, p2⟩ := r2.lst x2.gh e5
    refine ⟨a, a2, vs, ws, rfl, rfl, h1, h2, by rw [p1.length, p2.length]; exact Nat.le_trans hz LIM_line, fun l nl => ?_⟩
    have x3 := Ext.fresh (o := .lst (vs ++ ws)) x2.gh nl
    refine q _ _ _ [l] ((x1.trans x2).trans x3) (.ml upd_same (TRs.of_pures (p1.append p2))) (by simp) fun c hc => ?_
    have : c = l := by simpa using hc
    subst this
    exact ⟨x2.gh.free nl, x1.hh.free (x2.hh.free nl)⟩
  · cases e6
/-- [..] of pure items, owned -/
def mLcF (mi : En → Option (List D)) (vs : List Nat) (g : D → En → Option En) (tt : En → Option Bool) (me : EM) : EM := fun env => (mi env).bind fun ds => (lcRun g tt me (wipeE env vs) ds).bind fun out => if out.length ≤ LIM then some (.ml (out.map T.p)) else none
theorem tLcF {K : PySem.W.Frag} {fz : Bool} {mi : En → Option (List D)} {js vs : List Nat} {g : D → En → Option En} {tt : En → Option Bool} {me : EM} (hj : ∀ j ∈ js, j ∈ vs) {σ : L2.St} {H : Hp} {Q : VK} (h : tF K (mLcF mi vs g tt me) σ H Q) :
    tLc (iM K fz mi) (gM K js g) (tTM K tt) (tM K me) vs σ H Q := by
  obtain ⟨G, env, F, rel, t, e, q⟩ := h
  simp only [mLcF, Option.bind_eq_some_iff] at e
  obtain ⟨ds, e1, out, e2, e3⟩ := e
  split at e3
  · rename_i hz
    cases e3
    refine lcM hj ⟨G, env, F, rel, ds, out, e1, e2, hz, fun p vs' H' G' x hp gp h1 h2 => ?_⟩
    refine q _ H' G' [p] x (.ml h1 (TRs.of_pures h2)) (by simp) fun b hb => ?_
    have : b = p := by simpa using hb
    subst this
    exact ⟨gp, hp⟩
  · cases e3
theorem pf_lc {elt tg iter : Expr} {ifs : List Expr} {scope : Scope} {own : List (Str × Nat)} {fz : Bool} {mi : En → Option (List D)} {js : List Nat} {g : D → En → Option En} {tt : En → Option Bool} {me : EM} (hc : X.calm = true) (hN : X.N.Nodup) (hi : PIM X tg iter fz mi) (ok : BlkOk X.N X.env.scope scope own)
    (hg : ∀ (s : Shared) (H : Hp) (C : Addr) (cl : List (Str × Addr)) (fp : List Addr), GM (X.blk s H scope (compEnvC scope cl C X.env) fp) tg js g) (ht : ∀ (s : Shared) (H : Hp) (C : Addr) (cl : List (Str × Addr)) (fp : List Addr), PTsM (X.blk s H scope (compEnvC scope cl C X.env) fp) ifs tt)
    (he : ∀ (s : Shared) (H : Hp) (C : Addr) (cl : List (Str × Addr)) (fp : List Addr), PM (X.blk s H scope (compEnvC scope cl C X.env) fp) elt me) (hj : ∀ j ∈ js, j ∈ own.map (·.2) := by decide) (hs : ∀ x, foldedSetIterable iter X.env x = pure x := by intro _; rfl) :
    PF X (.ListComp elt [⟨tg, iter, ifs, 0⟩] scope pos) (mLcF mi (own.map (·.2)) g tt me) :=
  PE_imp (pe_lc hc hN hi ok hg ht he hs) fun _ _ _ h => tLcF hj h
/-! x = a made tree -/
def sSetF (i : Nat) (m : EM) : SM := fun env => (m env).map fun t => .nx (env.set i (some t))
theorem tSetF {K : PySem.W.Frag} {i : Nat} {m : EM} {D : Ends} {σ : L2.St} {H : Hp} (h : tS K (sSetF i m) D σ H) : tF K m σ H fun x H1 => gName i x σ H1 D.nx := by
  obtain ⟨G0, R, env, ⟨G, F, rel, hR, x0⟩, o, e, g⟩ := h
  simp only [sSetF, Option.map_eq_some_iff] at e
  obtain ⟨t, e1, rfl⟩ := e
  refine ⟨G, env, F, rel, t, e1, fun v H' G' F' x r nd fr => g _ H' ?_⟩
  have rel' := rel.ext x
  obtain ⟨F2, h1, h2, h3⟩ := ES.put r i rel'.es
  have dj : ∀ a ∈ F', a ∉ F := fun a ha z => (rel.fr a z).2 (fr a ha).2
  refine ⟨G', F2, ⟨h1, h3 rel.nd nd dj, fun a ha => ⟨?_, h1.alive a ha⟩, x.gh⟩, fun a ha => ?_, x0.trans x⟩
  · rcases h2 a ha with z | z
    · exact (fr a z).1
    · exact (rel'.fr a z).1
  · rcases h2 a ha with z | z
    · exact x0.hh.free (fr a z).2
    · exact hR a z
theorem psm_setF {i : Nat} {x : Str} {pos' : Pos} (hN : X.N.Nodup) (he : PF X e me) (hi : X.N[i]? = some x := by rfl) (hx : Loc X.env.scope x := by first | exact Or.inl rfl | exact Or.inr rfl) (hs : swapsWith e (some (.Name x pos')) pos.line X.env = pure false := by rfl) (hf : X.fn x = true ∨ X.env.scope.names.lookup x = some .local := by first | exact .inl rfl | exact .inr rfl | assumption) :
    PSM X (.Assign [.Name x pos'] e pos) (sSetF i me) := PS_imp (ps_set hN hi hx he hs hf) fun D σ H h => tSetF h
theorem psm_setLcF {i : Nat} {y : Str} {py spos : Pos} {elt tg iter : Expr} {ifs : List Expr} {scope : Scope} {own : List (Str × Nat)} {fz : Bool} {mi : En → Option (List D)} {js : List Nat} {g : D → En → Option En} {tt : En → Option Bool} {me : EM} (hc : X.calm = true) (hN : X.N.Nodup)
    (hi : PIM X tg iter fz mi) (ok : BlkOk X.N X.env.scope scope own)
    (hg : ∀ (s : Shared) (H : Hp) (C : Addr) (cl : List (Str × Addr)) (fp : List Addr), GM (X.blk s H scope (compEnvC scope cl C X.env) fp) tg js g) (ht : ∀ (s : Shared) (H : Hp) (C : Addr) (cl : List (Str × Addr)) (fp : List Addr), PTsM (X.blk s H scope (compEnvC scope cl C X.env) fp) ifs tt)
    (he : ∀ (s : Shared) (H : Hp) (C : Addr) (cl : List (Str × Addr)) (fp : List Addr), PM (X.blk s H scope (compEnvC scope cl C X.env) fp) elt me)
    (hsw : swapsWith (.ListComp elt [⟨tg, iter, ifs, 0⟩] scope pos) (some (.Name y py)) spos.line X.env = pure true) (hy : X.N[i]? = some y := by rfl) (hyl : X.env.scope.names.lookup y = some .local := by rfl)
    (hj : ∀ j ∈ js, j ∈ own.map (·.2) := by decide) (hs : ∀ x, foldedSetIterable iter X.env x = pure x := by intro _; rfl) :
    PSM X (.Assign [.Name y py] (.ListComp elt [⟨tg, iter, ifs, 0⟩] scope pos) spos) (sSetF i (mLcF mi (own.map (·.2)) g tt me)) :=
  PS_imp (ps_setLc hc hN hy hyl hsw hi ok hg ht he hs) fun D σ H h => tLcF hj (tSetF h)
end
end M
/-! M9: comprehensions of owned elements; defs, calls, the law's end. -/
namespace M
open PySem PySem.Spec PyProof.Rows L2

def lcRunT (g : D → En → Option En) (tt : En → Option Bool) (me : EM) (env : En) : List D → Option (List T)
  | [] => some []
  | d :: r => (g d env).bind fun e => (tt e).bind fun b => if b then (me e).bind fun t => (lcRunT g tt me env r).map fun ys => t :: ys else lcRunT g tt me env r
def mLcT (mi : En → Option (List D)) (vs : List Nat) (g : D → En → Option En) (tt : En → Option Bool) (me : EM) : EM := fun env => (mi env).bind fun ds => (lcRunT g tt me (wipeE env vs) ds).bind fun out => if out.length ≤ LIM then some (.ml out) else none
theorem tLcT {K : PySem.W.Frag} {fz : Bool} {mi : En → Option (List D)} {js vs : List Nat} {g : D → En → Option En} {tt : En → Option Bool} {me : EM} (hj : ∀ j ∈ js, j ∈ vs) {σ : L2.St} {H : Hp} {Q : VK} (h : tF K (mLcT mi vs g tt me) σ H Q) :
    tLc (iM K fz mi) (gM K js g) (tTM K tt) (tF K me) vs σ H Q := by
  obtain ⟨G, env, F, rel, t, e, q⟩ := h
  simp only [mLcT, Option.bind_eq_some_iff] at e
  obtain ⟨ds, e1, out, e2, e3⟩ := e
  split at e3
  · rename_i hz
    cases e3
    refine ⟨G, env, F, rel, ds, e1, fun J H1 G1 x1 wk => fun D nD => ?_⟩
    refine ⟨fun i m H2 => m = ds.length - i ∧ i ≤ ds.length ∧ ∃ G2 acc o1 o2 Fa, Ext G1 H1 G2 H2 ∧ G2 D = none ∧ H2 D = some (.lst acc) ∧ TRs K G2 H2 o1 acc Fa ∧ Fa.Nodup ∧ (∀ a ∈ Fa, G2 a = none ∧ H1 a = none ∧ a ≠ D) ∧ lcRunT g tt me (wipeE env vs) (ds.drop i) = some o2 ∧ out = o1 ++ o2, ?_, ?_⟩
    · refine ⟨ds.length, rfl, Nat.zero_le _, G1, [], [], out, [], Ext.fresh x1.gh nD, x1.gh.free nD, upd_same, .nil, .nil, (fun _ z => nomatch z), by simpa using e2, rfl⟩
    · rintro i m H2 ⟨rfl, hi, G2, acc, o1, o2, Fa, x2, gD, hD, ra, na, fa, e3, eo⟩
      have sB : Same (if fz then G1 else H1) H2 := by
        cases fz with
        | true => exact x2.gg.trans x2.gh
        | false => exact x2.hh
      by_cases hlt : i < ds.length
      · have ed : ds.drop i = ds[i] :: ds.drop (i + 1) := List.drop_eq_getElem_cons hlt
        rw [ed] at e3
        simp only [lcRunT, Option.bind_eq_some_iff] at e3
        obtain ⟨env1, e4, b, e5, e6⟩ := e3
        refine .inr ⟨wk.go i H2 sB hlt, fun H' => (i + 1 ≤ ds.length ∧ ∃ G2 acc o1 o2 Fa, Ext G1 H1 G2 H' ∧ G2 D = none ∧ H' D = some (.lst acc) ∧ TRs K G2 H' o1 acc Fa ∧ Fa.Nodup ∧ (∀ a ∈ Fa, G2 a = none ∧ H1 a = none ∧ a ≠ D) ∧ lcRunT g tt me (wipeE env vs) (ds.drop (i + 1)) = some o2 ∧ out = o1 ++ o2), fun H' w => ⟨ds.length - (i + 1), by omega, rfl, w.1, w.2⟩, fun x H3 y => ?_⟩
        obtain ⟨G3, x3, rd⟩ := wk.yld i H2 x H3 G2 ds[i] sB x2.gg x2.gh y (List.getElem?_eq_getElem hlt)
        have rel3 := (rel.ext x1).ext (x2.trans x3)
        obtain ⟨Fw, relw⟩ := rel3.wipe vs
        refine ⟨G3, wipeE env vs, Fw, ds[i], relw, rd, env1, e4, fun σ2 F2 rel4 _ ou => ⟨ou.wipe hj |>.trans ?_, ?_⟩⟩
        · apply List.ext_getElem?
          intro k
          rw [wipe_get, wipe_get]
          by_cases hk : k ∈ vs
          · rw [if_pos hk, if_pos hk, wipe_length]
          · rw [if_neg hk, if_neg hk]
        · refine ⟨G3, env1, F2, rel4, b, e5, fun H4 G4 x4 => ?_⟩
          have hD3 : H3 D = some (.lst acc) := x3.hh _ _ hD
          have g3 : G3 D = none := x3.not gD (by rw [hD]; exact Option.some_ne_none _)
          have g4 : G4 D = none := x4.not g3 (by rw [hD3]; exact Option.some_ne_none _)
          have hD4 : H4 D = some (.lst acc) := x4.hh _ _ hD3
          have x34 := x3.trans x4
          have ra4 := ra.keep x34.gg (Keep.of (F := Fa) x34.hh)
          have fa4 : ∀ a ∈ Fa, G4 a = none ∧ H1 a = none ∧ a ≠ D := fun a ha => ⟨x34.not (fa a ha).1 (ra.alive a ha), (fa a ha).2⟩
          cases b with
          | false =>
            rw [if_neg Bool.false_ne_true] at e6
            exact iteF ⟨hlt, G4, acc, o1, o2, Fa, (x2.trans x3).trans x4, g4, hD4, ra4, na, fa4, e6, eo⟩
          | true =>
            rw [if_pos rfl] at e6
            simp only [Option.bind_eq_some_iff, Option.map_eq_some_iff] at e6
            obtain ⟨t, e7, ys, e9, rfl⟩ := e6
            refine iteT ⟨G4, env1, F2, rel4.ext x4, t, e7, fun v H5 G5 F5 x5 r5 n5 f5 => ?_⟩
            have hD5 : H5 D = some (.lst acc) := x5.hh _ _ hD4
            have g5 : G5 D = none := x5.not g4 (by rw [hD4]; exact Option.some_ne_none _)
            have x25 := ((x2.trans x3).trans x4).trans x5
            have ra5 := ra4.keep x5.gg (Keep.of (F := Fa) x5.hh)
            have kp : ∀ L : List Addr, D ∉ L → Keep L H5 (upd H5 D (.lst (acc ++ [v]))) := fun L hL b hb o z => by
              rw [upd_ne (fun e => by subst e; exact hL hb)]; exact z
            have dF : D ∉ F5 := fun z => by
              have := (f5 D z).2
              rw [hD4] at this
              cases this
            refine ⟨acc, hD5, ?_, hlt, G5, acc ++ [v], o1 ++ [t], ys, Fa ++ (F5 ++ []), ⟨x25.gg, fun a o z => ?_, fun a o z => ?_, x25.fr⟩, g5, upd_same,
              (ra5.keep (Same.refl _) (kp Fa fun z => (fa D z).2.2 rfl)).append (.cons (r5.keep (Same.refl _) (kp F5 dF)) .nil), ?_, fun a ha => ?_, e9, by rw [eo, List.append_assoc]; rfl⟩
            · have l1 := ra5.len
              rw [eo] at hz
              simp only [List.length_append, List.length_cons] at hz
              have := LIM_line
              omega
            · have : a ≠ D := ne_of_none z nD
              rw [upd_ne this]
              exact x25.hh a o z
            · have : a ≠ D := ne_of_none z g5
              rw [upd_ne this]
              exact x25.gh a o z
            · rw [List.append_nil]
              exact List.nodup_append.mpr ⟨na, n5, fun a ha b hb z => by subst z; exact ra4.alive a ha (f5 a hb).2⟩
            · rw [List.append_nil] at ha
              rcases List.mem_append.mp ha with z | z
              · exact ⟨x5.not (fa4 a z).1 (ra4.alive a z), (fa a z).2⟩
              · refine ⟨(f5 a z).1, ?_, fun w => dF (w ▸ z)⟩
                exact ((x2.trans x3).trans x4).hh.free (f5 a z).2
      · have hi' : i = ds.length := by omega
        subst hi'
        rw [List.drop_length] at e3
        cases e3
        rw [List.append_nil] at eo
        subst eo
        refine .inl ⟨wk.stop _ H2 sB (Nat.le_refl _), q (.ref D) H2 G2 (D :: Fa) (x1.trans x2) (.ml hD ra) (List.nodup_cons.mpr ⟨fun z => (fa D z).2.2 rfl, na⟩) fun a ha => ?_⟩
        rcases List.mem_cons.mp ha with z | z
        · subst z; exact ⟨gD, x1.hh.free nD⟩
        · exact ⟨(fa a z).1, x1.hh.free (fa a z).2.1⟩
  · cases e3
section
variable {X : Cx} {pos : Pos}
theorem psm_setLcT {i : Nat} {y : Str} {py spos : Pos} {elt tg iter : Expr} {ifs : List Expr} {scope : Scope} {own : List (Str × Nat)} {fz : Bool} {mi : En → Option (List D)} {js : List Nat} {g : D → En → Option En} {tt : En → Option Bool} {me : EM} (hc : X.calm = true) (hN : X.N.Nodup)
    (hi : PIM X tg iter fz mi) (ok : BlkOk X.N X.env.scope scope own)
    (hg : ∀ (s : Shared) (H : Hp) (C : Addr) (cl : List (Str × Addr)) (fp : List Addr), GM (X.blk s H scope (compEnvC scope cl C X.env) fp) tg js g) (ht : ∀ (s : Shared) (H : Hp) (C : Addr) (cl : List (Str × Addr)) (fp : List Addr), PTsM (X.blk s H scope (compEnvC scope cl C X.env) fp) ifs tt)
    (he : ∀ (s : Shared) (H : Hp) (C : Addr) (cl : List (Str × Addr)) (fp : List Addr), PF (X.blk s H scope (compEnvC scope cl C X.env) fp) elt me)
    (hsw : swapsWith (.ListComp elt [⟨tg, iter, ifs, 0⟩] scope pos) (some (.Name y py)) spos.line X.env = pure true) (hy : X.N[i]? = some y := by rfl) (hyl : X.env.scope.names.lookup y = some .local := by rfl)
    (hj : ∀ j ∈ js, j ∈ own.map (·.2) := by decide) (hs : ∀ x, foldedSetIterable iter X.env x = pure x := by intro _; rfl) :
    PSM X (.Assign [.Name y py] (.ListComp elt [⟨tg, iter, ifs, 0⟩] scope pos) spos) (sSetF i (mLcT mi (own.map (·.2)) g tt me)) :=
  PS_imp (ps_setLc hc hN hy hyl hsw hi ok hg ht he hs) fun D σ H h => tLcT hj (tSetF h)
theorem pf_lcT {elt tg iter : Expr} {ifs : List Expr} {scope : Scope} {own : List (Str × Nat)} {fz : Bool} {mi : En → Option (List D)} {js : List Nat} {g : D → En → Option En} {tt : En → Option Bool} {me : EM} (hc : X.calm = true) (hN : X.N.Nodup) (hi : PIM X tg iter fz mi) (ok : BlkOk X.N X.env.scope scope own)
    (hg : ∀ (s : Shared) (H : Hp) (C : Addr) (cl : List (Str × Addr)) (fp : List Addr), GM (X.blk s H scope (compEnvC scope cl C X.env) fp) tg js g) (ht : ∀ (s : Shared) (H : Hp) (C : Addr) (cl : List (Str × Addr)) (fp : List Addr), PTsM (X.blk s H scope (compEnvC scope cl C X.env) fp) ifs tt)
    (he : ∀ (s : Shared) (H : Hp) (C : Addr) (cl : List (Str × Addr)) (fp : List Addr), PF (X.blk s H scope (compEnvC scope cl C X.env) fp) elt me) (hj : ∀ j ∈ js, j ∈ own.map (·.2) := by decide) (hs : ∀ x, foldedSetIterable iter X.env x = pure x := by intro _; rfl) :
    PF X (.ListComp elt [⟨tg, iter, ifs, 0⟩] scope pos) (mLcT mi (own.map (·.2)) g tt me) :=
  PE_imp (pe_lc hc hN hi ok hg ht he hs) fun _ _ _ h => tLcT hj h
end

/-! ### defs -/
inductive PArgs (K : PySem.W.Frag) (G H : Hp) : List T → List V → Prop
  | nil : PArgs K G H [] []
  | cons {t : T} {v : V} {ts : List T} {vs : List V} : TR K G H t v [] → PArgs K G H ts vs → PArgs K G H (t :: ts) (v :: vs)
theorem PArgs.es {K : PySem.W.Frag} {G H : Hp} : ∀ {ts : List T} {vs : List V} (n : Nat), PArgs K G H ts vs → ES K G H (ts.map some ++ List.replicate n none) (vs.map some ++ List.replicate n none) []
  | _, _, 0, .nil => .nil
  | _, _, n + 1, .nil => .no (PArgs.es n .nil)
  | _, _, n, .cons h r => by
    have q := ES.so h (PArgs.es n r)
    exact q
theorem PArgs.length {K : PySem.W.Frag} {G H : Hp} : ∀ {ts : List T} {vs : List V}, PArgs K G H ts vs → ts.length = vs.length
  | _, _, .nil => rfl
  | _, _, .cons _ r => by simp [r.length]
def startE (n : Nat) (ts : List T) : En := ts.map some ++ List.replicate (n - ts.length) none
def runFn (n : Nat) (body : SM) : List T → Option T := fun ts => (body (startE n ts)).bind fun o => match o with
  | .rt t => some t
  | .nx _ => some (.p .none)
  | _ => none
def spT (K : PySem.W.Frag) (np : Nat) (fn : List T → Option T) : Sp := fun vs H Q _ => vs.length = np ∧ ∃ G ts, Same G H ∧ PArgs K G H ts vs ∧ ∃ t, fn ts = some t ∧ ∀ v H', RR K G H t v H' → Q v H'
theorem fn_ok {P : Program} {w : World} {K : PySem.W.Frag} {mg : Str → Option Value} {base : Heap} {x qual : Str} {st : Stmt} {f : Addr} {fd : FuncData} {N ps : List Str} {k : Nat} {body : SM} (F : Fun K x qual st f fd) (S : FnScope N ps (defScope st))
    (hb : ∀ (cdv : Value) (A : Around) (outer : List Env) (s : Shared) (H : Hp) (E : XK), Room k (A.deeper (envOfC qual (defScope st) s.heap.objs.size f cdv)) → PSsM (cxOf CX0 P w K mg base N qual (defScope st) f cdv A outer s H E).nox (defBody st) body) :
    FnOk P w K mg base CX0 (k + 1) f fd ps (spT K ps.length (runFn N.length body)) := by
  refine F.ok S (fun vs H Q E h => h.1) fun cdv A outer s H vs Q E hr h => ⟨_, hb cdv A outer s H E hr, ?_⟩
  obtain ⟨hl, G, ts, sg, pa, t, e, q⟩ := h
  simp only [runFn, Option.bind_eq_some_iff] at e
  obtain ⟨o, e1, e2⟩ := e
  have es := pa.es (N.length - vs.length)
  refine ⟨G, H, startE N.length ts, ⟨G, [], ⟨?_, .nil, (fun _ z => nomatch z), sg⟩, (fun _ z => nomatch z), Ext.refl sg⟩, o, e1, ?_⟩
  · unfold startE L2.start
    rw [pa.length]
    exact es
  · cases o with
    | nx e =>
      cases e2
      rintro σ' H' ⟨G', F', rel, _, x⟩
      exact q _ H' ⟨G', [], x, .p .non, .nil, fun _ z => nomatch z⟩
    | rt u => cases e2; exact fun v H' r => q v H' r
    | bk e => cases e2
    | ct e => cases e2
/-! ### calls -/
def T.frozen : T → Bool
  | .p _ => true
  | .sc _ => true
  | _ => false
def T.view : T → Option T
  | .sc ns => some (.sc ns)
  | t => t.snap.map T.p
def views : List T → Option (List T)
  | [] => some []
  | t :: r => t.view.bind fun u => (views r).map fun us => u :: us
def callT (fn : List T → Option T) (ts : List T) : Option T :=
  if ts.all T.frozen then (fn ts).bind fun t => t.snap.map T.p
  else (views ts).bind fun us => (fn us).bind fun t => t.pure?.bind fun d => if flatD d then some (.p d) else none
def callF (fn : List T → Option T) (ts : List T) : Option T := if ts.all T.frozen then fn ts else none
theorem Args.frozen {K : PySem.W.Frag} {G H : Hp} : ∀ {ts : List T} {vs : List V}, Args K G H ts vs → ts.all T.frozen = true → PArgs K G H ts vs
  | _, _, .nil, _ => .nil
  | _, _, .cons (t := t) h r, e => by
    rw [List.all_cons, Bool.and_eq_true] at e
    refine .cons ?_ (r.frozen e.2)
    cases h with
    | p h => exact .p h
    | sc h => exact .sc h
    | _ => simp [T.frozen] at e
theorem Args.views {K : PySem.W.Frag} {G H : Hp} (s : Same G H) : ∀ {ts us : List T} {vs : List V}, Args K G H ts vs → M.views ts = some us → PArgs K H H us vs
  | _, _, _, .nil, e => by simp [M.views] at e; subst e; exact .nil
  | _, _, _, .cons (t := t) h r, e => by
    simp only [M.views, Option.bind_eq_some_iff, Option.map_eq_some_iff] at e
    obtain ⟨u, e1, us, e2, rfl⟩ := e
    refine .cons ?_ (r.views s e2)
    cases h with
    | sc h => simp [T.view] at e1; subst e1; exact .sc (s.seq h)
    | p h =>
      simp [T.view, T.snap] at e1; subst e1; exact .p (h.mono s)
    | ml h r =>
      simp only [T.view, Option.map_eq_some_iff] at e1
      obtain ⟨d, e3, rfl⟩ := e1
      exact .p ((TR.ml h r).live s e3)
    | tp h r =>
      simp only [T.view, Option.map_eq_some_iff] at e1
      obtain ⟨d, e3, rfl⟩ := e1
      exact .p ((TR.tp h r).live s e3)
    | md h r =>
      simp only [T.view, Option.map_eq_some_iff] at e1
      obtain ⟨d, e3, rfl⟩ := e1
      exact .p ((TR.md (G := G) h r).live s e3)
    | ob h h' r =>
      simp only [T.view, Option.map_eq_some_iff] at e1
      obtain ⟨d, e3, rfl⟩ := e1
      simp [T.snap] at e3
theorem TR.freeze {K : PySem.W.Frag} {G H : Hp} {t : T} {v : V} {F : List Addr} {d : D} (r : TR K G H t v F) (s : Same G H) (fr : ∀ a ∈ F, G a = none) (e : t.snap = some d) : ∃ G', Same G G' ∧ Same G' H ∧ Rp K G' v d ∧ ∀ a, G' a ≠ none → G a ≠ none ∨ a ∈ F := by
  refine ⟨fun a => if a ∈ F then H a else G a, fun a u z => ?_, fun a u z => ?_, ?_, fun a z => ?_⟩
  · show (if a ∈ F then H a else G a) = some u
    by_cases ha : a ∈ F
    · rw [fr a ha] at z; cases z
    · rw [if_neg ha]; exact z
  · have z' : (if a ∈ F then H a else G a) = some u := z
    by_cases ha : a ∈ F
    · rw [if_pos ha] at z'; exact z'
    · rw [if_neg ha] at z'; exact s a u z'
  · refine r.data (fun a u z => ?_) (fun a ha u z => ?_) e
    · show (if a ∈ F then H a else G a) = some u
      by_cases ha : a ∈ F
      · rw [fr a ha] at z; cases z
      · rw [if_neg ha]; exact z
    · show (if a ∈ F then H a else G a) = some u
      rw [if_pos ha]; exact z
  · have z' : (if a ∈ F then H a else G a) ≠ none := z
    by_cases ha : a ∈ F
    · exact .inr ha
    · rw [if_neg ha] at z'; exact .inl z'
section
variable {X : Cx} {k np : Nat} {f : Addr} {fd : FuncData} {ps : List Str} {fn : List T → Option T} {x : Str} {e : Expr} {es : List Expr} {ms : En → Option (List T)} {p pos : Pos}
theorem tCallM {K : PySem.W.Frag} {E : XK} (hnp : ∀ env ts, ms env = some ts → ts.length = np) {σ : L2.St} {H : Hp} {Q : VK} (h : tM K (mCall (callT fn) ms) σ H Q) : tCall (spT K np fn) [] E (tAM K ms) σ H Q := by
  obtain ⟨G, env, F, rel, t, e1, q⟩ := h
  simp only [mCall, Option.bind_eq_some_iff] at e1
  obtain ⟨ts, e2, e3⟩ := e1
  refine ⟨G, env, F, rel, ts, e2, fun vs H1 G1 x1 r1 => ?_⟩
  show spT K np fn (vs ++ []) H1 Q E
  rw [List.append_nil]
  refine ⟨by rw [← r1.length]; exact hnp env ts e2, ?_⟩
  unfold callT at e3
  split at e3
  · rename_i hf
    simp only [Option.bind_eq_some_iff, Option.map_eq_some_iff] at e3
    obtain ⟨u, e4, d, e5, rfl⟩ := e3
    refine ⟨G1, ts, x1.gh, r1.frozen hf, u, e4, fun v H' rr => ?_⟩
    obtain ⟨G2, F2, x2, r2, n2, f2⟩ := rr
    obtain ⟨G3, s1, s2, rp, fr⟩ := r2.freeze x2.gh (fun a ha => (f2 a ha).1) e5
    refine q v H' G3 [] (x1.trans ⟨x2.gg.trans s1, x2.hh, s2, fun a z => ?_⟩) (.p rp)
    rcases fr a z with w | w
    · exact x2.fr a w
    · exact .inr (f2 a w).2
  · simp only [Option.bind_eq_some_iff] at e3
    obtain ⟨us, e4, u, e5, d, e6, e7⟩ := e3
    split at e7
    · rename_i hd
      cases e7
      refine ⟨H1, us, Same.refl _, r1.views x1.gh e4, u, e5, fun v H' rr => ?_⟩
      obtain ⟨G2, F2, x2, r2, n2, f2⟩ := rr
      have rp := r2.of_pure? e6
      refine q v H' G1 [] (x1.trans ⟨Same.refl _, x2.hh, x1.gh.trans x2.hh, fun a z => .inl z⟩) (.p ?_)
      cases rp with
      | non => exact .non
      | bl b => exact .bl b
      | int i => exact .int i
      | str y => exact .str y
      | lst _ _ => simp [flatD] at hd
      | tup _ _ => simp [flatD] at hd
      | dct _ _ => simp [flatD] at hd
    · cases e7
theorem pm_call (F : FnOk X.prog X.w X.K X.mg X.base CX0 k f fd ps (spT X.K np fn)) (hr : Room k X.A) (hg : Gl X x) (hm : X.mg x = some (.ref f)) (hk : PySem.W.keepIn X.K (.ref f) = true) (hb : Binds X.K fd ps []) (ha : PAM X (e :: es) ms)
    (hnp : ∀ env ts, ms env = some ts → ts.length = np)
    (hd : (x == ("__debug__" : Str)) = false := by decide) (he : starEach (e :: es) X.env = (false, eval e X.env) :: starEach es X.env := by rfl) (hpl : (backTo pos (starEach es X.env)).any (·.1) = false := by rfl) :
    PM X (.Call (.Name x p) (e :: es) [] pos) (mCall (callT fn) ms) :=
  PE_imp (pe_call F hr hg hm hk hb .nil pass0 ha hd he hpl) fun _ _ _ h => tCallM hnp h
/-- .. its tree taken as it is made -/
theorem pf_call (F : FnOk X.prog X.w X.K X.mg X.base CX0 k f fd ps (spT X.K np fn)) (hr : Room k X.A) (hg : Gl X x) (hm : X.mg x = some (.ref f)) (hk : PySem.W.keepIn X.K (.ref f) = true) (hb : Binds X.K fd ps []) (ha : PAM X (e :: es) ms)
    (hnp : ∀ env ts, ms env = some ts → ts.length = np)
    (hd : (x == ("__debug__" : Str)) = false := by decide) (he : starEach (e :: es) X.env = (false, eval e X.env) :: starEach es X.env := by rfl) (hpl : (backTo pos (starEach es X.env)).any (·.1) = false := by rfl) :
    PF X (.Call (.Name x p) (e :: es) [] pos) (mCall (callF fn) ms) := by
  refine PE_imp (pe_call F hr hg hm hk hb .nil pass0 ha hd he hpl) fun σ H Q h => ?_
  obtain ⟨G, env, F, rel, t, e1, q⟩ := h
  simp only [mCall, Option.bind_eq_some_iff] at e1
  obtain ⟨ts, e2, e3⟩ := e1
  refine ⟨G, env, F, rel, ts, e2, fun vs H1 G1 x1 r1 => ?_⟩
  show spT X.K np fn (vs ++ []) H1 Q _
  rw [List.append_nil]
  refine ⟨by rw [← r1.length]; exact hnp env ts e2, ?_⟩
  unfold callF at e3
  split at e3
  · rename_i hf
    refine ⟨G1, ts, x1.gh, r1.frozen hf, t, e3, fun v H' rr => ?_⟩
    obtain ⟨G2, F2, x2, r2, n2, f2⟩ := rr
    exact q v H' G2 F2 (x1.trans x2) r2 n2 fun a ha => ⟨(f2 a ha).1, x1.hh.free (f2 a ha).2⟩
  · cases e3
end
theorem len1 {a : EM} : ∀ env ts, aCons a aNil env = some ts → ts.length = 1 := fun env ts e => by
  simp only [aCons, aNil, Option.bind_eq_some_iff, Option.map_eq_some_iff] at e
  obtain ⟨_, _, _, e, rfl⟩ := e
  cases e; rfl
theorem lenS {a : EM} {ms : En → Option (List T)} {n : Nat} (h : ∀ env ts, ms env = some ts → ts.length = n) : ∀ env ts, aCons a ms env = some ts → ts.length = n + 1 := fun env ts e => by
  simp only [aCons, Option.bind_eq_some_iff, Option.map_eq_some_iff] at e
  obtain ⟨_, _, _, e, rfl⟩ := e
  simp [h _ _ e]
/-! a value returned as the tree that it owns -/
section
variable {X : Cx} {e : Expr} {me : EM} {pos : Pos}
def sRetF (m : EM) : SM := fun env => (m env).map .rt
theorem psm_retF (he : PF X e me) : PSM X (.Return (some e) pos) (sRetF me) := by
  refine PS_imp (ps_ret he) fun D σ H h => ?_
  obtain ⟨G0, R, env, ⟨G, F, rel, hR, x0⟩, o, e, g⟩ := h
  simp only [sRetF, Option.map_eq_some_iff] at e
  obtain ⟨t, e1, rfl⟩ := e
  exact ⟨G, env, F, rel, t, e1, fun v H' G' F' x r nd fr => g v H' ⟨G', F', x0.trans x, r, nd, fun a ha => ⟨(fr a ha).1, x0.hh.free (fr a ha).2⟩⟩⟩
/-- return x, x owned -/
def sRetV (i : Nat) : SM := fun env => (slotT env i).map .rt
theorem psm_retV (i : Nat) {x : Str} {p : Pos} (hN : X.N[i]? = some x := by rfl) (hv : Vis X.env.scope x := by first | exact Or.inl rfl | exact Or.inr (Or.inl rfl) | exact Or.inr (Or.inr rfl)) (hd : (x == ("__debug__" : Str)) = false := by decide)
    (hcd : (x == ("__classdict__" : Str)) = false := by decide) : PSM X (.Return (some (.Name x p)) pos) (sRetV i) := by
  refine PS_imp (ps_ret (pe_var hN hv hd hcd)) fun D σ H h => ?_
  obtain ⟨G0, R, env, ⟨G, F, rel, hR, x0⟩, o, e, g⟩ := h
  simp only [sRetV, Option.map_eq_some_iff] at e
  obtain ⟨t, e1, rfl⟩ := e
  obtain ⟨v, F1, Fa, Fb, h1, h2, h3, _⟩ := rel.es.split (slotT_eq e1)
  have m1 : ∀ a ∈ F1, a ∈ F := fun a ha => by rw [h3]; exact List.mem_append_right _ (List.mem_append_left _ ha)
  refine ⟨v, h1, g v H ⟨G, F1, x0, h2, ?_, fun a ha => ⟨(rel.fr a (m1 a ha)).1, hR a (m1 a ha)⟩⟩⟩
  have nd := rel.nd
  rw [h3] at nd
  exact (List.nodup_append.mp (List.nodup_append.mp nd).2.1).1
end
/-! ### the law -/
def spLaw (n : Nat) (K : PySem.W.Frag) : Sp := fun vs H Q _ => ∃ (a : Addr) (ns : List Int), vs = [.ref a] ∧ SqL K H a (ns.map V.int) ∧ ns.length ≤ n ∧ ∀ H', Q (.bl true) H'
theorem law_ok {P : Program} {w : World} {K : PySem.W.Frag} {mg : Str → Option Value} {base : Heap} {k n : Nat} {f : Addr} {fd : FuncData} {ps : List Str} {fn : List T → Option T} (F : FnOk P w K mg base CX0 k f fd ps (spT K 1 fn))
    (h : ∀ ns : List Int, ns.length ≤ n → fn [.sc ns] = some (.p (.bool true))) : FnOk P w K mg base CX0 k f fd ps (spLaw n K) := by
  refine F.imp fun vs H Q E hq => ?_
  obtain ⟨a, ns, rfl, hs, hn, q⟩ := hq
  refine ⟨rfl, H, [.sc ns], Same.refl _, .cons (.sc hs) .nil, _, h ns hn, fun v H' rr => ?_⟩
  obtain ⟨G, F, x, r, _⟩ := rr
  cases r.pure
  exact q H'
end M
/-! M10: names of built-ins, fuel. -/
namespace M
open PySem PySem.Spec PyProof.Rows L2
def FUEL : Nat := 1000000
theorem bt_len : bootBuiltins "len" = some (.builtin "len") := by decide +kernel
theorem bt_max : bootBuiltins "max" = some (.builtin "max") := by decide +kernel
theorem bt_min : bootBuiltins "min" = some (.builtin "min") := by decide +kernel
theorem bt_sum : bootBuiltins "sum" = some (.builtin "sum") := by decide +kernel
theorem bt_all : bootBuiltins "all" = some (.builtin "all") := by decide +kernel
theorem bt_any : bootBuiltins "any" = some (.builtin "any") := by decide +kernel
theorem bt_sorted : bootBuiltins "sorted" = some (.builtin "sorted") := by decide +kernel
theorem bt_abs : bootBuiltins "abs" = some (.builtin "abs") := by decide +kernel
theorem bt_list : bootBuiltins "list" = some (.type "list") := by decide +kernel
theorem bt_tuple : bootBuiltins "tuple" = some (.type "tuple") := by decide +kernel
theorem bt_int : bootBuiltins "int" = some (.type "int") := by decide +kernel
theorem bt_str : bootBuiltins "str" = some (.type "str") := by decide +kernel
theorem bt_bool : bootBuiltins "bool" = some (.type "bool") := by decide +kernel
end M
/-! M11: evaluation of mirrors by simp. -/
namespace M
open PySem PySem.Spec PyProof.Rows L2
section
variable {a b c : EM} {sa sb : SM} {env : En} {ba bb : En → Option Bool} {as : En → Option (List T)}
@[simp] theorem ev_sCons : sCons sa sb env = (sa env).bind fun o => match o with | .nx e => sb e | o => some o := rfl
@[simp] theorem ev_sNil : sNil env = some (.nx env) := rfl
@[simp] theorem ev_sPass : sPass env = some (.nx env) := rfl
@[simp] theorem ev_sBreak : sBreak env = some (.bk env) := rfl
@[simp] theorem ev_sContinue : sContinue env = some (.ct env) := rfl
@[simp] theorem ev_sIf : sIf ba sa sb env = (ba env).bind fun k => if k then sa env else sb env := rfl
@[simp] theorem ev_sExpr : sExpr a env = (a env).map fun _ => .nx env := rfl
@[simp] theorem ev_sRet : sRet a env = (a env).bind fun t => t.pure?.map fun d => .rt (.p d) := rfl
@[simp] theorem ev_sRetF : sRetF a env = (a env).map .rt := rfl
@[simp] theorem ev_sRetV {i : Nat} : sRetV i env = ((env[i]?).join).map .rt := rfl
@[simp] theorem ev_sSet {i : Nat} : sSet i a env = (a env).bind fun t => t.pure?.map fun d => .nx (env.set i (some (.p d))) := rfl
@[simp] theorem ev_sSetF {i : Nat} : sSetF i a env = (a env).map fun t => .nx (env.set i (some t)) := rfl
@[simp] theorem ev_sAsg {g : D → En → Option En} : sAsg g a env = (a env).bind fun t => t.pure?.bind fun d => (g d env).map .nx := rfl
@[simp] theorem ev_sFor {mi : En → Option (List D)} {g : D → En → Option En} : sFor mi g sa env = (mi env).bind fun ds => forRun g sa ds env := rfl
@[simp] theorem ev_sWhile {n : Nat} : sWhile n ba sa env = whileRun ba sa n env := rfl
@[simp] theorem ev_mVar {i : Nat} : mVar i env = (env[i]?).join := rfl
@[simp] theorem ev_mC {d : D} : mC d env = some (.p d) := rfl
@[simp] theorem ev_mOp {f : T → T → Option T} : mOp f a b env = (a env).bind fun x => (b env).bind fun y => f x y := rfl
@[simp] theorem ev_mCall {f : List T → Option T} : mCall f as env = (as env).bind f := rfl
@[simp] theorem ev_aNil : aNil env = some [] := rfl
@[simp] theorem ev_aCons : aCons a as env = (a env).bind fun x => (as env).map fun xs => x :: xs := rfl
@[simp] theorem ev_bVal : bVal a env = (a env).bind T.bool? := rfl
@[simp] theorem ev_bOp {f : T → T → Option T} : bOp f a b env = ((a env).bind fun x => (b env).bind fun y => f x y).bind T.bool? := rfl
@[simp] theorem ev_bAnd : bAnd ba bb env = (ba env).bind fun x => if x then bb env else some false := rfl
@[simp] theorem ev_bOr : bOr ba bb env = (ba env).bind fun x => if x then some true else bb env := rfl
@[simp] theorem ev_bNot : bNot ba env = (ba env).map fun x => !x := rfl
@[simp] theorem ev_bYes : bYes env = some true := rfl
@[simp] theorem ev_mAnd : mAnd a b env = (a env).bind fun x => x.bool?.bind fun c => if c then b env else some (.p (.bool false)) := rfl
@[simp] theorem ev_mOr : mOr a b env = (a env).bind fun x => x.bool?.bind fun c => if c then some (.p (.bool true)) else b env := rfl
@[simp] theorem ev_mNot : mNot a env = (a env).bind fun x => x.bool?.map fun c => .p (.bool !c) := rfl
@[simp] theorem ev_mIf : mIf ba a b env = (ba env).bind fun x => if x then a env else b env := rfl
@[simp] theorem ev_mChain {f g : T → T → Option T} : mChain f g a b c env = (a env).bind fun x => (b env).bind fun y => (f x y).bind fun z => z.bool?.bind fun k => if k then (c env).bind fun u => g y u else some (.p (.bool false)) := rfl
@[simp] theorem ev_mTup : mTup as env = (as env).bind fun ts => (pures ts).bind fun ds => if ds.length ≤ LIM then some (.p (.tuple ds)) else none := rfl
@[simp] theorem ev_mLst : mLst as env = (as env).bind fun ts => (pures ts).bind fun ds => if ds.length ≤ LIM then some (.p (.list ds)) else none := rfl
@[simp] theorem ev_mLstF : mLstF as env = (as env).bind fun ts => if ts.length ≤ LIM then some (.ml ts) else none := rfl
@[simp] theorem ev_mPure : mPure a env = (a env).bind fun t => t.pure?.map T.p := rfl
@[simp] theorem ev_mNeg : mNeg a env = (a env).bind fun t => t.int?.map fun i => .p (.int (-i)) := rfl
@[simp] theorem ev_mSlice {lo hi : OM} : mSlice a lo hi env = (a env).bind fun t => (lo env).bind fun x => (hi env).bind fun y => sliceT t x y := rfl
@[simp] theorem ev_oNone : oNone env = some none := rfl
@[simp] theorem ev_oSome : oSome a env = (a env).bind fun t => t.int?.map some := rfl
@[simp] theorem ev_iSeq : iSeq a env = (a env).bind T.fz? := rfl
@[simp] theorem ev_iSeqB : iSeqB a env = (a env).bind T.any? := rfl
@[simp] theorem ev_iRng1 : M.iRng1 a env = (a env).bind fun t => t.int?.bind fun j => if smallI j then some (rangeD 0 j) else none := rfl
@[simp] theorem ev_iRng2 : M.iRng2 a b env = (a env).bind fun t => t.int?.bind fun i => (b env).bind fun u => u.int?.bind fun j => if smallI i ∧ smallI j then some (rangeD i j) else none := rfl
@[simp] theorem ev_iEn : iEn a env = (a env).bind fun t => t.fzl?.map fun xs => enumD 0 xs := rfl
@[simp] theorem ev_gNm {i : Nat} {d : D} : gNm i d env = some (env.set i (some (.p d))) := rfl
@[simp] theorem ev_gNl : gNl [] env = some env := rfl
@[simp] theorem ev_gCn {g : D → En → Option En} {gs : List D → En → Option En} {d : D} {r : List D} : gCn g gs (d :: r) env = (g d env).bind fun e => gs r e := rfl
@[simp] theorem ev_gTp {gs : List D → En → Option En} {ds : List D} : gTp gs (.tuple ds) env = gs ds env := rfl
@[simp] theorem ev_mLc {mi : En → Option (List D)} {vs : List Nat} {g : D → En → Option En} : mLc mi vs g ba a env = (mi env).bind fun ds => (lcRun g ba a (wipeE env vs) ds).bind fun out => if out.length ≤ LIM then some (.p (.list out)) else none := rfl
@[simp] theorem ev_mLcF {mi : En → Option (List D)} {vs : List Nat} {g : D → En → Option En} : mLcF mi vs g ba a env = (mi env).bind fun ds => (lcRun g ba a (wipeE env vs) ds).bind fun out => if out.length ≤ LIM then some (.ml (out.map T.p)) else none := rfl
@[simp] theorem ev_mLcT {mi : En → Option (List D)} {vs : List Nat} {g : D → En → Option En} : mLcT mi vs g ba a env = (mi env).bind fun ds => (lcRunT g ba a (wipeE env vs) ds).bind fun out => if out.length ≤ LIM then some (.ml out) else none := rfl
@[simp] theorem ev_mIsi {n : String} : mIsi n a env = (a env).bind (isiT n) := rfl
@[simp] theorem ev_mListF : mListF a env = (a env).bind fun t => t.any?.map fun ds => .ml (ds.map T.p) := rfl
@[simp] theorem ev_mListR1 : mListR1 a env = (a env).bind fun t => t.int?.bind fun j => if j ≤ 1000000 ∧ -1000000 ≤ j then some (.p (.list (rangeD 0 j))) else none := rfl
@[simp] theorem ev_mRepF : mRepF a b env = (a env).bind fun x => (b env).bind fun y => x.lst?.bind fun xs => y.int?.bind fun j => if -(2 ^ 62) ≤ j ∧ j < 2 ^ 62 ∧ xs.length * j.toNat ≤ LIM then some (.ml ((List.replicate j.toNat xs).flatten.map T.p)) else none := rfl
@[simp] theorem ev_sAppend {mp : PMm} : sAppend mp a env = (a env).bind fun y => y.pure?.bind fun d => (updAt mp (fun ts => if ts.length < LIM then some (ts ++ [.p d]) else none) env).map .nx := rfl
@[simp] theorem ev_sSetIx {mp : PMm} : sSetIx mp a b env = (a env).bind fun k => k.int?.bind fun k => (b env).bind fun y => y.pure?.bind fun d => (updAt mp (fun ts => setN ts k d) env).map .nx := rfl
@[simp] theorem ev_sPopAt {mp : PMm} : sPopAt mp a env = (a env).bind fun k => k.int?.bind fun k => if -(2 ^ 62) ≤ k ∧ k < 2 ^ 62 then (updAt mp (fun ts => (ixN ts.length k).map fun j => ts.eraseIdx j) env).map .nx else none := rfl
@[simp] theorem ev_sInsert {mp : PMm} : sInsert mp a b env = (a env).bind fun k => k.int?.bind fun k => (b env).bind fun y => y.pure?.bind fun d => (updAt mp (fun ts => insN ts k d) env).map .nx := rfl
@[simp] theorem ev_sFrz {i : Nat} : sFrz i sa env = (match env[i]? with | some (some t) => t.snap.bind fun d => sa (env.set i (some (.p d))) | _ => sa env) := rfl
@[simp] theorem ev_pVar {i : Nat} : pVar i env = (slotT env i).map fun _ => (i, []) := rfl
@[simp] theorem ev_slotT {i : Nat} : slotT env i = (env[i]?).join := rfl
@[simp] theorem ev_updAt {mp : PMm} {f : List T → Option (List T)} : updAt mp f env = (mp env).bind fun q => (slotT env q.1).bind fun t => (T.at q.2 t).bind fun u => match u with
  | .ml ts => (f ts).bind fun ts' => (T.put q.2 t (.ml ts')).map fun t' => env.set q.1 (some t')
  | _ => none := rfl
@[simp] theorem ev_pIx {mp : PMm} : pIx mp a env = (mp env).bind fun q => (a env).bind fun k => k.int?.bind fun k => (slotT env q.1).bind fun t => (T.at q.2 t).bind fun u => u.own?.bind fun ts => (ixN ts.length k).map fun j => (q.1, q.2 ++ [.ix j]) := rfl
@[simp] theorem ev_wipe0 : wipeE env [] = env := rfl
@[simp] theorem ev_wipe1 {v : Nat} {vs : List Nat} : wipeE env (v :: vs) = (wipeE env vs).set v none := rfl
end
section
variable {i j : Int} {d e : D} {ds es : List D} {ts us : List T} {x y : Bool} {t u : T}
@[simp] theorem ev_pure : (T.p d).pure? = some d := rfl
@[simp] theorem ev_int : (T.p (.int i)).int? = some i := rfl
@[simp] theorem ev_bool : (T.p (.bool x)).bool? = some x := rfl
@[simp] theorem ev_pures0 : pures [] = some [] := rfl
@[simp] theorem ev_pures1 : pures (t :: ts) = t.pure?.bind fun d => (pures ts).map fun ds => d :: ds := rfl
@[simp] theorem ev_snap : (T.p d).snap = some d := by simp [T.snap]
@[simp] theorem ev_add : addT (.p (.int i)) (.p (.int j)) = some (.p (.int (i + j))) := rfl
@[simp] theorem ev_sub : subT (.p (.int i)) (.p (.int j)) = some (.p (.int (i - j))) := rfl
@[simp] theorem ev_mul : mulT (.p (.int i)) (.p (.int j)) = if mulOk i j then some (.p (.int (i * j))) else none := rfl
@[simp] theorem ev_mod : modT (.p (.int i)) (.p (.int j)) = if j = 0 then none else some (.p (.int (i.fmod j))) := by
  unfold modT iOp
  simp only [ev_int, Option.bind_some]
  split <;> rfl
@[simp] theorem ev_fdiv : fdivT (.p (.int i)) (.p (.int j)) = if divOk j then some (.p (.int (i.fdiv j))) else none := by
  unfold fdivT iOp
  simp only [ev_int, Option.bind_some]
  split <;> rfl
@[simp] theorem ev_pow : powT (.p (.int i)) (.p (.int j)) = if 0 ≤ j ∧ j ≤ 1000000 ∧ i.natAbs < 2 ^ 64 then some (.p (.int (i ^ j.toNat))) else none := by
  unfold powT iOp
  simp only [ev_int, Option.bind_some]
  split <;> rfl
@[simp] theorem ev_lt : ltT (.p (.int i)) (.p (.int j)) = some (.p (.bool (decide (i < j)))) := rfl
@[simp] theorem ev_le : leT (.p (.int i)) (.p (.int j)) = some (.p (.bool (decide (i ≤ j)))) := rfl
@[simp] theorem ev_gt : gtT (.p (.int i)) (.p (.int j)) = some (.p (.bool (decide (j < i)))) := rfl
@[simp] theorem ev_ge : geT (.p (.int i)) (.p (.int j)) = some (.p (.bool (decide (j ≤ i)))) := rfl
theorem shaped_int : SeqAt.shaped (.int i) = true := by simp [SeqAt.shaped, PyData.canLay0, PyData.depth]
theorem shaped_bool : SeqAt.shaped (.bool x) = true := by simp [SeqAt.shaped, PyData.canLay0, PyData.depth]
@[simp] theorem ev_eqi : eqT (.p (.int i)) (.p (.int j)) = some (.p (.bool (decide (i = j)))) := by
  simp [eqT, shaped_int, PyData.eqv, Bool.beq_eq_decide_eq]
@[simp] theorem ev_nei : neT (.p (.int i)) (.p (.int j)) = some (.p (.bool (!decide (i = j)))) := by
  simp [neT, shaped_int, PyData.eqv, Bool.beq_eq_decide_eq]
@[simp] theorem ev_eqb : eqT (.p (.bool x)) (.p (.bool y)) = some (.p (.bool (x == y))) := by
  simp [eqT, shaped_bool, PyData.eqv]
@[simp] theorem ev_neb : neT (.p (.bool x)) (.p (.bool y)) = some (.p (.bool (!(x == y)))) := by
  simp [neT, shaped_bool, PyData.eqv]
@[simp] theorem ev_intT_i : intT [.p (.int i)] = some (.p (.int i)) := rfl
@[simp] theorem ev_intT_b : intT [.p (.bool x)] = some (.p (.int (if x then 1 else 0))) := rfl
@[simp] theorem ev_lenl : lenT [.p (.list ds)] = some (.p (.int ds.length)) := by simp [lenT, T.kids]
@[simp] theorem ev_lent : lenT [.p (.tuple ds)] = some (.p (.int ds.length)) := by simp [lenT, T.kids]
@[simp] theorem ev_lenm : lenT [.ml ts] = some (.p (.int ts.length)) := by simp [lenT, T.kids]
@[simp] theorem ev_lens {ns : List Int} : lenT [.sc ns] = some (.p (.int ns.length)) := by simp [lenT, T.kids]
@[simp] theorem ev_ixl : idxT (.p (.list ds)) (.p (.int i)) = (atI ds i).map T.p := by
  simp only [idxT, ev_int, Option.bind_some, T.kids, atI, List.length_map]
  cases ixN ds.length i with
  | none => rfl
  | some j => simp
@[simp] theorem ev_ixt : idxT (.p (.tuple ds)) (.p (.int i)) = (atI ds i).map T.p := by
  simp only [idxT, ev_int, Option.bind_some, T.kids, atI, List.length_map]
  cases ixN ds.length i with
  | none => rfl
  | some j => simp
@[simp] theorem ev_ixm : idxT (.ml ts) (.p (.int i)) = atI ts i := by simp [idxT, T.kids]
@[simp] theorem ev_ixp : idxT (.tp ts) (.p (.int i)) = atI ts i := by simp [idxT, T.kids]
@[simp] theorem ev_ixs {ns : List Int} : idxT (.sc ns) (.p (.int i)) = (atI ns i).map fun n => T.p (.int n) := by
  simp only [idxT, ev_int, Option.bind_some, T.kids, atI, List.length_map]
  cases ixN ns.length i with
  | none => rfl
  | some j => simp; rfl
@[simp] theorem ev_anyl : (T.p (.list ds)).any? = some ds := rfl
@[simp] theorem ev_anyt : (T.p (.tuple ds)).any? = some ds := rfl
@[simp] theorem ev_fzl : (T.p (.list ds)).fz? = some ds := rfl
@[simp] theorem ev_fzt : (T.p (.tuple ds)).fz? = some ds := rfl
@[simp] theorem ev_fzs {ns : List Int} : (T.sc ns).fz? = some (ns.map PyData.int) := rfl
@[simp] theorem ev_fzll : (T.p (.list ds)).fzl? = some ds := rfl
@[simp] theorem ev_seql : (T.p (.list ds)).seq? = some ds := rfl
@[simp] theorem ev_seqs {ns : List Int} : (T.sc ns).seq? = some (ns.map PyData.int) := rfl
@[simp] theorem ev_lstl : (T.p (.list ds)).lst? = some ds := rfl
@[simp] theorem ev_addl : addT (.p (.list ds)) (.p (.list es)) = if ds.length + es.length ≤ LIM then some (.p (.list (ds ++ es))) else none := rfl
@[simp] theorem ev_addt : addT (.p (.tuple ds)) (.p (.tuple es)) = if ds.length + es.length ≤ LIM then some (.p (.tuple (ds ++ es))) else none := rfl
@[simp] theorem ev_listl : listT [.p (.list ds)] = some (.p (.list ds)) := rfl
@[simp] theorem ev_listt : listT [.p (.tuple ds)] = some (.p (.list ds)) := rfl
@[simp] theorem ev_tuplel : tupleT [.p (.list ds)] = some (.p (.tuple ds)) := rfl
@[simp] theorem ev_slicel {lo hi : Option Int} : sliceT (.p (.list ds)) lo hi = some (.p (.list (cutL ds lo hi))) := rfl
@[simp] theorem ev_slicet {lo hi : Option Int} : sliceT (.p (.tuple ds)) lo hi = some (.p (.tuple (cutL ds lo hi))) := rfl
@[simp] theorem ev_slices {ns : List Int} {lo hi : Option Int} : sliceT (.sc ns) lo hi = some (.p (.list (cutL (ns.map PyData.int) lo hi))) := rfl
@[simp] theorem ev_min2 : minT [.p (.int i), .p (.int j)] = some (.p (.int (min i j))) := rfl
@[simp] theorem ev_max2 : maxT [.p (.int i), .p (.int j)] = some (.p (.int (max i j))) := rfl
@[simp] theorem ev_at0 : T.at [] t = some t := rfl
@[simp] theorem ev_put0 : T.put [] t u = some u := rfl
@[simp] theorem ev_own : (T.ml ts).own? = some ts := rfl
theorem pures_ints (xs : List Int) : pures (xs.map fun x => T.p (.int x)) = some (xs.map PyData.int) := by
  have := pures_map (xs.map PyData.int)
  rw [List.map_map] at this
  exact this
theorem snaps_ints (xs : List Int) : snaps (xs.map fun x => T.p (.int x)) = some (xs.map PyData.int) := by
  have := snaps_p (xs.map PyData.int)
  rw [List.map_map] at this
  exact this
end
theorem mulOk_l {i j : Int} (h : i.natAbs < 2 ^ 64) : mulOk i j = true := by simp [mulOk, h]
theorem mulOk_r {i j : Int} (h : j.natAbs < 2 ^ 64) : mulOk i j = true := by simp [mulOk, h]
theorem log2_small {n : Nat} (h : n < 2 ^ 64) : n.log2 < 9000 := by
  by_cases h0 : n = 0
  · subst h0; decide
  · exact (Nat.log2_lt h0).mpr (Nat.lt_of_lt_of_le h (Nat.pow_le_pow_right (by decide) (by decide)))
theorem divOk_small {j : Int} (h0 : j ≠ 0) (h : j.natAbs < 2 ^ 64) : divOk j = true := by
  simp [divOk, h0, log2_small h]
theorem atI_lt {α : Type} {xs : List α} {i : Int} (h0 : 0 ≤ i) (h1 : i < xs.length) : atI xs i = some (xs[i.toNat]'(by omega)) := by
  unfold atI ixN
  rw [if_pos h0, if_pos h1]
  simp
end M
/-! M12: len(set(xs)). -/
namespace M
open PySem PySem.Spec PyProof.Rows L2

/-- each once -/
def ddup : List Int → List Int
  | [] => []
  | x :: r => if x ∈ ddup r then ddup r else x :: ddup r
theorem mem_ddup {k : Int} : ∀ {ns : List Int}, k ∈ ddup ns ↔ k ∈ ns
  | [] => Iff.rfl
  | x :: r => by
    unfold ddup
    split
    · rename_i h
      rw [mem_ddup, List.mem_cons]
      exact ⟨.inr, fun z => z.elim (fun z => by subst z; exact mem_ddup.mp h) id⟩
    · rw [List.mem_cons, List.mem_cons, mem_ddup]
theorem nodup_ddup : ∀ ns : List Int, (ddup ns).Nodup
  | [] => List.nodup_nil
  | x :: r => by
    unfold ddup
    split
    · exact nodup_ddup r
    · rename_i h
      exact List.nodup_cons.mpr ⟨h, nodup_ddup r⟩
theorem ddup_le : ∀ ns : List Int, (ddup ns).length ≤ ns.length
  | [] => Nat.le_refl _
  | x :: r => by
    have := ddup_le r
    unfold ddup
    split <;> simp only [List.length_cons] <;> omega
theorem ddup_eq : ∀ {ns : List Int}, (ddup ns).length = ns.length ↔ ns.Nodup
  | [] => by simp [ddup]
  | x :: r => by
    have h := ddup_le r
    rw [List.nodup_cons, ← ddup_eq (ns := r)]
    by_cases z : x ∈ ddup r
    · have z' := mem_ddup.mp z
      rw [ddup, if_pos z, List.length_cons]
      exact ⟨fun e => by omega, fun e => absurd z' e.1⟩
    · have z' : x ∉ r := fun y => z (mem_ddup.mpr y)
      rw [ddup, if_neg z, List.length_cons, List.length_cons]
      exact ⟨fun e => ⟨z', by omega⟩, fun e => by omega⟩
theorem size_ddup {es ns : List Int} (hn : es.Nodup) (hm : ∀ k, k ∈ es ↔ k ∈ ns) : es.length = (ddup ns).length :=
  ((List.perm_ext_iff_of_nodup hn (nodup_ddup ns)).mpr fun k => (hm k).trans mem_ddup.symm).length_eq
theorem nodup_step {l : List Int} {v : Int} (h : l.Nodup) : (step_dedup l v).Nodup := by
  unfold step_dedup
  split
  · exact h
  · rename_i z
    refine List.nodup_append.mpr ⟨h, by simp, fun a ha b hb => ?_⟩
    have hb' : b = v := by simpa using hb
    subst hb'
    intro e
    subst e
    exact z (List.any_eq_true.mpr ⟨a, ha, by simp⟩)
theorem nodup_firstMet (val : Nat → Int) : ∀ i, (firstMet val i).Nodup
  | 0 => List.nodup_nil
  | i + 1 => by rw [firstMet_succ]; exact nodup_step (nodup_firstMet val i)
theorem mem_firstMet (ns : List Int) (k : Int) : k ∈ firstMet (fun i => ns.getD i 0) ns.length ↔ k ∈ ns := by
  have h := firstMet_any (fun i => ns.getD i 0) ns.length k
  have e : (List.range ns.length).map (fun i => ns.getD i 0) = ns := by
    apply List.ext_getElem
    · simp
    · intro i h1 h2
      simp [List.getD, h2]
  rw [e] at h
  have a : ∀ l : List Int, l.any (· == k) = true ↔ k ∈ l := fun l => by simp
  rw [← a, ← a, h]

section
variable {X : Cx}
def lenSetT : List T → Option T
  | [t] => t.any?.bind fun ds => (intsOf ds).bind fun ns => if ns.length ≤ 4000 then some (.p (.int (ddup ns).length)) else none
  | _ => none
def tLenSetD (K : PySem.W.Frag) (ta : TE) : TE := fun σ H Q => ta σ H fun x H1 => ∃ (l : Addr) (ns : List Int), x = .ref l ∧ (SqL K H1 l (ns.map V.int) ∨ SqT K H1 l (ns.map V.int)) ∧ ns.length ≤ 4000 ∧ Q (.int ((ddup ns).length : Nat)) H1
theorem pe_lenSetD {a : Expr} {ta : TE} {p p2 q pos : Pos} (hg : Gl X "len") (hm : X.mg "len" = none) (hg2 : Gl X "set") (hm2 : X.mg "set" = none) (hc : X.calm = true) (ha : PE X a ta)
    (na : starEach [a] X.env = (false, eval a X.env) :: starEach [] X.env := by rfl) : PE X (.Call (.Name "len" p) [.Call (.Name "set" p2) [a] [] q] [] pos) (tLenSetD X.K ta) := by
  refine ⟨fun pins s σ H Q I h => Call_ (ld_blt I hg hm boot_len (callWith_builtin1 (args_cons (Call_ (ld_blt I hg2 hm2 boot_set (callWith_type1 (args_cons (thn (ha.run pins s σ H _ I h) fun v s1 z => args_nil ?_) na) na rfl))) rfl) rfl rfl))⟩
  obtain ⟨x, H1, I1, r1, l, ns, rfl, hq, hl, q1⟩ := z
  cases r1
  rcases hq with hq | hq
  · obtain ⟨its, r, pl, hz⟩ := I1.list hq
    have hlen : its.length = ns.length := by rw [← r.length, List.length_map]
    refine call_set_list (ns := ns) (I1.ok.hd hc) pl.isList (by simpa using r.ints) (by rw [List.size_toArray, hlen]; unfold scanBound; omega) fun h' tk hS hk => args_nil ?_
    rw [show its.toArray.size = ns.length by rw [List.size_toArray, hlen]] at hS
    obtain ⟨o, es, ep, t, ho, hex, hd, _, _, _, hf, hn⟩ := hS
    have hs := size_ddup (nodup_firstMet (fun i => ns.getD i 0) ns.length) (mem_firstMet ns)
    have hle := ddup_le ns
    have I2 : Inv X pins σ H1 { s1 with heap := h', toks := tk } := I1.kept fun b o e => hk b o (Heap.lt_size e) e
    exact call_len_set ho hex hd hf (by rw [hn, hs]; omega) ⟨.int ((ddup ns).length : Nat), H1, I2.tok _, ⟨_, by rw [hn, hs]⟩, q1⟩
  · obtain ⟨its, r, pl, hz⟩ := I1.tuple hq
    refine call_set_tupI ns (I1.ok.hd hc) pl (by simpa using r.ints) (by unfold scanBound; omega) fun h' tk c hS hcl hk => args_nil ?_
    obtain ⟨o, es, ep, t, ho, hex, hd, _, hnd, hmem, _, hf, hn, _⟩ := hS
    have hs := size_ddup (ns := ns) hnd fun k => by rw [← hmem k]; simp
    rw [List.length_map, Array.length_toList] at hs
    have hle := ddup_le ns
    have I2 : Inv X pins σ H1 { s1 with heap := h', toks := tk } := I1.kept hk
    exact call_len_set ho hex hd hf (by rw [hs]; omega) ⟨.int ((ddup ns).length : Nat), H1, I2.tok _, ⟨_, by rw [hs]⟩, q1⟩
theorem pm_lenSet {a : Expr} {m : EM} {p p2 q pos : Pos} (hg : Gl X "len") (hm : X.mg "len" = none) (hg2 : Gl X "set") (hm2 : X.mg "set" = none) (hc : X.calm = true) (ha : PM X a m)
    (na : starEach [a] X.env = (false, eval a X.env) :: starEach [] X.env := by rfl) : PM X (.Call (.Name "len" p) [.Call (.Name "set" p2) [a] [] q] [] pos) (mCall lenSetT (aCons m aNil)) := by
  refine PE_imp (pe_lenSetD hg hm hg2 hm2 hc ha na) fun σ H Q h => ?_
  obtain ⟨G, env, F, rel, t, e, k⟩ := h
  simp only [mCall, aCons, aNil, Option.bind_eq_some_iff, Option.map_eq_some_iff] at e
  obtain ⟨ts, ⟨u, e1, us, e2, rfl⟩, e3⟩ := e
  cases e2
  simp only [lenSetT, Option.bind_eq_some_iff] at e3
  obtain ⟨ds, e4, ns, e5, e6⟩ := e3
  split at e6
  · rename_i hz
    cases e6
    refine ⟨G, env, F, rel, u, e1, fun v H' G' F' x r => ?_⟩
    obtain ⟨a, vs, rfl, h1, p1⟩ := r.any x.gh e4
    rw [intsOf_eq e5] at p1
    rw [p1.ints] at h1
    exact ⟨a, ns, rfl, h1, hz, k _ _ _ [] x (.p (.int _))⟩
  · cases e6
/-! x or y, x a list or tuple -/
def mOrL (ma mb : EM) : EM := fun env => (ma env).bind fun t => t.any?.bind fun ds => if ds.isEmpty = true then mb env else some t
@[simp] theorem ev_mOrL {ma mb : EM} {env : En} : mOrL ma mb env = (ma env).bind fun t => t.any?.bind fun ds => if ds.isEmpty = true then mb env else some t := rfl
theorem pm_orL {a b : Expr} {rest : List Expr} {pos : Pos} {ma mb : EM} (ha : PM X a ma) (hb : PM X (.BoolOp .Or (b :: rest) pos) mb) : PM X (.BoolOp .Or (a :: b :: rest) pos) (mOrL ma mb) := by
  refine PE_imp (pe_orT ha hb) fun σ H Q q => ?_
  obtain ⟨G, env, F, rel, t, e, q⟩ := q
  simp only [mOrL, Option.bind_eq_some_iff] at e
  obtain ⟨x, e1, ds, e2, e3⟩ := e
  refine ⟨G, env, F, rel, x, e1, fun v H' G' F' x1 r => ?_⟩
  obtain ⟨p, vs, rfl, h1, p1⟩ := r.any x1.gh e2
  have hl := p1.length
  have hb : vs.isEmpty = ds.isEmpty := by
    cases vs <;> cases ds <;> simp_all
  have ht : TruV X.K (.ref p) H' (!vs.isEmpty) := by
    rcases h1 with h1 | h1
    · exact .inl ⟨vs, h1, rfl⟩
    · exact .inr (.inl ⟨vs, h1, rfl⟩)
  refine ⟨!vs.isEmpty, ht, ?_⟩
  cases hd : ds.isEmpty with
  | true =>
    rw [hb, hd, if_neg (by decide)]
    rw [hd, if_pos rfl] at e3
    exact ⟨G', env, F, rel.ext x1, t, e3, fun v H2 G2 F2 x2 r2 => q v H2 G2 F2 (x1.trans x2) r2⟩
  | false =>
    rw [hb, hd, if_pos (by decide)]
    rw [hd, if_neg (by decide)] at e3
    cases e3
    exact q _ H' G' F' x1 r
end
end M
section
open PySem PySem.Spec PyProof.Rows L2 M
def Q.law_draws_L1 : SM := sCons (sSet 5 (mOp modT (mOp addT (mOp addT (mOp addT (mOp mulT (mVar 5) (mVar 5)) (mOp mulT (mC (.int 48271)) (mVar 5))) (mVar 6)) (mC (.int 1))) (mC (.int 2305843009213693951)))) (sIf (bAnd (bOp gtT (mVar 6) (mC (.int 2))) (bOp gtT (mVar 4) (mC (.int 0)))) (sCons (sAppend (pVar 3) (mOp modT (mVar 4) (mVar 2))) (sSet 4 (mOp fdivT (mVar 4) (mVar 2)))) (sIf (bOp gtT (mVar 6) (mC (.int 2))) (sAppend (pVar 3) (mOp modT (mOp fdivT (mVar 5) (mC (.int 4096))) (mVar 2))) (sNil)))
def Q.law_draws : List T → Option T := runFn 7 (sCons (sSetF 3 (mLstF (aNil))) (sCons (sSet 4 (mOp mulT (mVar 0) (mCall intT (aCons (mOp geT (mVar 0) (mOp powT (mC (.int 10)) (mC (.int 18)))) (aNil))))) (sCons (sSet 5 (mOp modT (mVar 0) (mC (.int 2305843009213693951)))) (sCons (sFor (iRng1 (mOp addT (mVar 1) (mC (.int 3)))) (gNm 6) (Q.law_draws_L1)) (sRetV 3)))))
def Q.law_cell_at : List T → Option T := runFn 2 (sCons (sIf (bOp ltT (mVar 1) (mCall lenT (aCons (mVar 0) (aNil)))) (sRet (mOp idxT (mVar 0) (mVar 1))) (sNil)) (sRet (mC (.int 0))))
def Q.law_mixed_L1 : SM := sInsert (pVar 2) (mOp modT (mOp idxT (mVar 1) (mVar 3)) (mOp addT (mCall lenT (aCons (mVar 2) (aNil))) (mC (.int 1)))) (mVar 4)
def Q.law_mixed : List T → Option T := runFn 5 (sCons (sSetF 2 (mLstF (aNil))) (sCons (sFor (iEn (mVar 0)) (gTp (gCn (gNm 3) (gCn (gNm 4) (gNl)))) (Q.law_mixed_L1)) (sRetV 2)))
def Q.law_a_log_L1 : SM := sCons (sSet 8 (mOp modT (mVar 7) (mOp idxT (mLst (aCons (mC (.int 8)) (aCons (mC (.int 20)) (aCons (mC (.int 100)) (aNil))))) (mOp modT (mOp idxT (mVar 3) (mC (.int 14))) (mC (.int 3)))))) (sIf (bOp notInT (mVar 8) (mVar 5)) (sAppend (pVar 5) (mVar 8)) (sNil))
def Q.law_a_log_L2 : SM := sCons (sSet 11 (mCall (callT Q.law_draws) (aCons (mOp addT (mCall (callT Q.law_cell_at) (aCons (mVar 0) (aCons (mOp addT (mVar 1) (mC (.int 1))) (aNil)))) (mOp mulT (mVar 10) (mOp addT (mOp idxT (mVar 3) (mC (.int 15))) (mC (.int 1))))) (aCons (mC (.int 30)) (aCons (mOp powT (mC (.int 10)) (mC (.int 6))) (aNil)))))) (sCons (sSet 12 (mOp modT (mOp fdivT (mOp idxT (mVar 11) (mC (.int 29))) (mC (.int 8))) (mCall lenT (aCons (mVar 5) (aNil))))) (sCons (sSet 13 (mSlice (mOp mulT (mVar 5) (mC (.int 2))) (oSome (mVar 12)) (oSome (mOp addT (mVar 12) (mCall minT (aCons (mC (.int 12)) (aCons (mCall lenT (aCons (mVar 5) (aNil))) (aNil)))))))) (sCons (sSet 14 (mLc (iEn (mVar 13)) [19, 8] (gTp (gCn (gNm 19) (gCn (gNm 8) (gNl)))) (bOp gtT (mOp modT (mOp idxT (mVar 11) (mVar 19)) (mC (.int 3))) (mC (.int 0))) (mVar 8))) (sCons (sSet 14 (mOrL (mVar 14) (mLst (aCons (mOp idxT (mVar 5) (mOp modT (mOp idxT (mVar 11) (mC (.int 14))) (mCall lenT (aCons (mVar 5) (aNil))))) (aNil))))) (sCons (sSet 14 (mCall (callT Q.law_mixed) (aCons (mVar 14) (aCons (mSlice (mVar 11) (oSome (mC (.int 15))) (oSome (mC (.int 29)))) (aNil))))) (sCons (sSet 15 (mOp idxT (mLst (aCons (mC (.int 1)) (aCons (mC (.int 20)) (aNil)))) (mOp modT (mOp idxT (mVar 3) (mC (.int 16))) (mC (.int 2))))) (sCons (sSet 16 (mLc (iSeqB (mVar 14)) [8] (gNm 8) (bYes) (mOp fdivT (mOp modT (mOp addT (mOp mulT (mOp modT (mOp idxT (mVar 3) (mC (.int 2))) (mC (.int 97))) (mVar 8)) (mOp idxT (mVar 3) (mC (.int 3)))) (mC (.int 97))) (mVar 15)))) (sCons (sSet 17 (mCall minT (aCons (mVar 16) (aNil)))) (sCons (sSet 18 (mLc (iEn (mVar 14)) [19, 8] (gTp (gCn (gNm 19) (gCn (gNm 8) (gNl)))) (bOp eqT (mOp idxT (mVar 16) (mVar 19)) (mVar 17)) (mVar 8))) (sCons (sIf (bOr (bOp eqT (mOp modT (mOp idxT (mVar 3) (mC (.int 17))) (mC (.int 3))) (mC (.int 0))) (bOp eqT (mOp modT (mOp idxT (mVar 11) (mC (.int 29))) (mC (.int 8))) (mC (.int 0)))) (sCons (sSet 18 (mLc (iEn (mVar 14)) [19, 8] (gTp (gCn (gNm 19) (gCn (gNm 8) (gNl)))) (bOp eqT (mOp modT (mOp idxT (mVar 11) (mOp addT (mC (.int 15)) (mVar 19))) (mC (.int 3))) (mC (.int 0))) (mVar 8))) (sSet 18 (mOrL (mVar 18) (mSlice (mVar 14) (oNone) (oSome (mC (.int 1))))))) (sNil)) (sAppend (pVar 9) (mTup (aCons (mCall tupleT (aCons (mVar 14) (aNil))) (aCons (mCall tupleT (aCons (mCall (callT Q.law_mixed) (aCons (mVar 18) (aCons (mSlice (mVar 11) (oSome (mC (.int 1))) (oSome (mC (.int 15)))) (aNil)))) (aNil))) (aNil)))))))))))))))
def Q.law_a_log : List T → Option T := runFn 20 (sCons (sSet 3 (mCall (callT Q.law_draws) (aCons (mCall (callT Q.law_cell_at) (aCons (mVar 0) (aCons (mVar 1) (aNil)))) (aCons (mC (.int 20)) (aCons (mOp powT (mC (.int 10)) (mC (.int 6))) (aNil)))))) (sCons (sSet 4 (mOp addT (mC (.int 1)) (mOp modT (mOp idxT (mVar 3) (mC (.int 0))) (mVar 2)))) (sCons (sSetF 5 (mLstF (aNil))) (sCons (sSet 6 (mCall (callT Q.law_draws) (aCons (mCall (callT Q.law_cell_at) (aCons (mVar 0) (aCons (mOp addT (mVar 1) (mC (.int 2))) (aNil)))) (aCons (mC (.int 40)) (aCons (mOp powT (mC (.int 10)) (mC (.int 6))) (aNil)))))) (sCons (sFor (iSeq (mOp addT (mSlice (mVar 3) (oSome (mC (.int 1))) (oSome (mOp addT (mOp addT (mC (.int 1)) (mC (.int 2))) (mOp modT (mOp idxT (mVar 3) (mC (.int 13))) (mC (.int 11)))))) (mSlice (mVar 6) (oNone) (oSome (mOp mulT (mC (.int 40)) (mCall intT (aCons (mOp eqT (mOp modT (mOp idxT (mVar 3) (mC (.int 18))) (mC (.int 3))) (mC (.int 0))) (aNil)))))))) (gNm 7) (Q.law_a_log_L1)) (sFrz 5 (sCons (sSetF 9 (mLstF (aNil))) (sCons (sFor (iRng1 (mVar 4)) (gNm 10) (Q.law_a_log_L2)) (sRetV 9)))))))))
def Q.law_spoilt_4 : List T → Option T := runFn 9 (sCons (sSetF 0 (mListF (mVar 0))) (sCons (sSet 2 (mOp modT (mOp idxT (mVar 1) (mC (.int 0))) (mCall lenT (aCons (mVar 0) (aNil))))) (sCons (sSetF 3 (mLcT (iSeqB (mOp idxT (mVar 0) (mVar 2))) [4] (gNm 4) (bYes) (mListF (mVar 4)))) (sCons (sSet 4 (mOp modT (mOp idxT (mVar 1) (mC (.int 1))) (mC (.int 2)))) (sCons (sSet 5 (mOp modT (mOp idxT (mVar 1) (mC (.int 2))) (mCall lenT (aCons (mOp idxT (mVar 3) (mVar 4)) (aNil))))) (sCons (sSet 6 (mOp modT (mOp idxT (mVar 1) (mC (.int 3))) (mC (.int 10)))) (sCons (sIf (bOp ltT (mVar 6) (mC (.int 3))) (sSetIx (pIx (pVar 3) (mVar 4)) (mVar 5) (mOp idxT (mLst (aCons (mNeg (mC (.int 1))) (aCons (mC (.int 100)) (aCons (mC (.int 99)) (aNil))))) (mVar 6))) (sNil)) (sCons (sIf (bOp eqT (mVar 6) (mC (.int 3))) (sAppend (pIx (pVar 3) (mVar 4)) (mOp idxT (mOp idxT (mVar 3) (mVar 4)) (mVar 5))) (sNil)) (sCons (sIf (bOp eqT (mVar 6) (mC (.int 4))) (sAppend (pIx (pVar 3) (mC (.int 1))) (mOp modT (mOp idxT (mVar 1) (mC (.int 4))) (mC (.int 100)))) (sNil)) (sCons (sIf (bOp eqT (mVar 6) (mC (.int 5))) (sSetIx (pVar 3) (mC (.int 1)) (mLst (aNil))) (sNil)) (sCons (sIf (bOp eqT (mVar 6) (mC (.int 6))) (sFrz 3 (sSet 3 (mLst (aCons (mLst (aNil)) (aCons (mOp idxT (mLst (aCons (mLst (aNil)) (aCons (mOp idxT (mVar 3) (mC (.int 1))) (aNil)))) (mOp modT (mOp idxT (mVar 1) (mC (.int 4))) (mC (.int 2)))) (aNil)))))) (sNil)) (sCons (sIf (bOp eqT (mVar 6) (mC (.int 7))) (sCons (sSet 7 (mLc (iRng2 (mC (.int 60)) (mC (.int 99))) [8] (gNm 8) (bOp notInT (mVar 8) (mOp idxT (mVar 3) (mC (.int 0)))) (mVar 8))) (sSetIx (pVar 3) (mC (.int 0)) (mSlice (mOp addT (mOp idxT (mVar 3) (mC (.int 0))) (mVar 7)) (oNone) (oSome (mOp subT (mC (.int 13)) (mOp modT (mOp idxT (mVar 1) (mC (.int 4))) (mC (.int 2)))))))) (sNil)) (sFrz 3 (sCons (sSetIx (pVar 0) (mVar 2) (mTup (aCons (mCall tupleT (aCons (mOp idxT (mVar 3) (mC (.int 0))) (aNil))) (aCons (mCall tupleT (aCons (mOp idxT (mVar 3) (mC (.int 1))) (aNil))) (aNil))))) (sFrz 0 (sCons (sIf (bOp gtT (mVar 6) (mC (.int 7))) (sSet 0 (mSlice (mOp mulT (mVar 0) (mC (.int 17))) (oNone) (oSome (mOp idxT (mLst (aCons (mC (.int 0)) (aCons (mC (.int 16)) (aCons (mC (.int 17)) (aNil))))) (mOp modT (mOp idxT (mVar 1) (mC (.int 4))) (mC (.int 3))))))) (sNil)) (sRetV 0)))))))))))))))))
def Q.are_unlike : List T → Option T := runFn 2 (sRet (mAnd (mOp gtT (mCall lenT (aCons (mVar 0) (aNil))) (mC (.int 0))) (mAnd (mOp eqT (mCall lenSetT (aCons (mVar 0) (aNil))) (mCall lenT (aCons (mVar 0) (aNil)))) (mCall allT (aCons (mLc (iSeqB (mVar 0)) [1] (gNm 1) (bYes) (mChain leT ltT (mC (.int 0)) (mVar 1) (mC (.int 100)))) (aNil))))))
def Q.is_choosing : List T → Option T := runFn 3 (sCons (sIf (bOr (bNot (bVal (mCall (callT Q.are_unlike) (aCons (mVar 0) (aNil))))) (bOr (bNot (bVal (mCall (callT Q.are_unlike) (aCons (mVar 1) (aNil))))) (bOp gtT (mCall lenT (aCons (mVar 0) (aNil))) (mC (.int 12))))) (sRet (mC (.bool false))) (sNil)) (sRet (mCall allT (aCons (mLc (iSeqB (mVar 1)) [2] (gNm 2) (bYes) (mOp inT (mVar 2) (mVar 0))) (aNil)))))
def Q.is_log : List T → Option T := runFn 3 (sRet (mAnd (mChain leT leT (mC (.int 1)) (mCall lenT (aCons (mVar 0) (aNil))) (mC (.int 16))) (mCall allT (aCons (mLc (iSeqB (mVar 0)) [1, 2] (gTp (gCn (gNm 1) (gCn (gNm 2) (gNl)))) (bYes) (mCall (callT Q.is_choosing) (aCons (mVar 1) (aCons (mVar 2) (aNil))))) (aNil)))))
def Q.law_due_3_L1 : SM := sCons (sIf (bOr (bOp ltT (mCall lenT (aCons (mVar 3) (aNil))) (mC (.int 1))) (bOr (bOp gtT (mCall lenT (aCons (mVar 3) (aNil))) (mC (.int 12))) (bOp neT (mCall lenSetT (aCons (mVar 3) (aNil))) (mCall lenT (aCons (mVar 3) (aNil)))))) (sRet (mC (.bool false))) (sNil)) (sIf (bOr (bOp ltT (mCall minT (aCons (mVar 3) (aNil))) (mC (.int 0))) (bOp gtT (mCall maxT (aCons (mVar 3) (aNil))) (mC (.int 99)))) (sRet (mC (.bool false))) (sNil))
def Q.law_due_3_L2 : SM := sCons (sFor (iSeq (mTup (aCons (mVar 1) (aCons (mVar 2) (aNil))))) (gNm 3) (Q.law_due_3_L1)) (sIf (bOp neT (mLc (iSeqB (mVar 2)) [4] (gNm 4) (bOp notInT (mVar 4) (mVar 1)) (mVar 4)) (mLst (aNil))) (sRet (mC (.bool false))) (sNil))
def Q.law_due_3 : List T → Option T := runFn 5 (sCons (sIf (bOr (bOp ltT (mCall lenT (aCons (mVar 0) (aNil))) (mC (.int 1))) (bOp gtT (mCall lenT (aCons (mVar 0) (aNil))) (mC (.int 16)))) (sRet (mC (.bool false))) (sNil)) (sCons (sFor (iSeq (mVar 0)) (gTp (gCn (gNm 1) (gCn (gNm 2) (gNl)))) (Q.law_due_3_L2)) (sRet (mC (.bool true)))))
def Q.k23_law_L1 : SM := sCons (sSet 3 (mCall (callT Q.law_spoilt_4) (aCons (mVar 1) (aCons (mCall (callT Q.law_draws) (aCons (mOp addT (mVar 2) (mC (.int 1))) (aCons (mC (.int 5)) (aCons (mC (.int 1000)) (aNil))))) (aNil))))) (sCons (sIf (bOp eqT (mVar 2) (mC (.int 0))) (sSet 3 (mCall listT (aCons (mVar 1) (aNil)))) (sNil)) (sCons (sSet 4 (mCall listT (aCons (mVar 3) (aNil)))) (sCons (sSet 5 (mCall (callT Q.is_log) (aCons (mVar 4) (aNil)))) (sIf (bOr (bNot (bVal (mIsi "bool" (mVar 5)))) (bOr (bOp neT (mVar 5) (mCall (callT Q.law_due_3) (aCons (mVar 3) (aNil)))) (bOp neT (mVar 4) (mVar 3)))) (sRet (mC (.bool false))) (sNil)))))
def Q.k23_law : List T → Option T := runFn 6 (sCons (sSet 1 (mCall (callT Q.law_a_log) (aCons (mVar 0) (aCons (mC (.int 0)) (aCons (mC (.int 16)) (aNil)))))) (sCons (sFor (iSeq (mOp addT (mLst (aCons (mC (.int 0)) (aNil))) (mSlice (mVar 0) (oSome (mC (.int 2))) (oSome (mC (.int 18)))))) (gNm 2) (Q.k23_law_L1)) (sRet (mC (.bool true)))))
def Q.law_spoilt : List T → Option T := runFn 8 (sCons (sSetF 0 (mListF (mVar 0))) (sCons (sSet 2 (mOp modT (mOp idxT (mVar 1) (mC (.int 0))) (mCall lenT (aCons (mVar 0) (aNil))))) (sCons (sSetF 3 (mLcT (iSeqB (mOp idxT (mVar 0) (mVar 2))) [4] (gNm 4) (bYes) (mListF (mVar 4)))) (sCons (sSet 4 (mOp modT (mOp idxT (mVar 1) (mC (.int 1))) (mC (.int 2)))) (sCons (sSet 5 (mOp modT (mOp idxT (mVar 1) (mC (.int 2))) (mCall lenT (aCons (mOp idxT (mVar 3) (mVar 4)) (aNil))))) (sCons (sSet 6 (mOp modT (mOp idxT (mVar 1) (mC (.int 3))) (mC (.int 11)))) (sCons (sIf (bOp ltT (mVar 6) (mC (.int 4))) (sSetIx (pIx (pVar 3) (mVar 4)) (mVar 5) (mOp idxT (mLst (aCons (mC (.int 0)) (aCons (mOp addT (mOp powT (mC (.int 10)) (mC (.int 6))) (mC (.int 1))) (aCons (mNeg (mC (.int 1))) (aCons (mOp powT (mC (.int 10)) (mC (.int 6))) (aNil)))))) (mVar 6))) (sNil)) (sCons (sIf (bOp eqT (mVar 6) (mC (.int 4))) (sAppend (pIx (pVar 3) (mVar 4)) (mOp addT (mC (.int 1)) (mOp modT (mOp idxT (mVar 1) (mC (.int 4))) (mC (.int 3))))) (sNil)) (sCons (sIf (bOp eqT (mVar 6) (mC (.int 5))) (sPopAt (pIx (pVar 3) (mVar 4)) (mVar 5)) (sNil)) (sCons (sIf (bOp eqT (mVar 6) (mC (.int 6))) (sSetF 3 (mLstF (aCons (mRepF (mLst (aCons (mC (.int 1)) (aNil))) (mOp idxT (mLst (aCons (mC (.int 0)) (aCons (mC (.int 7)) (aCons (mC (.int 6)) (aNil))))) (mOp modT (mOp idxT (mVar 1) (mC (.int 4))) (mC (.int 3))))) (aCons (mRepF (mLst (aCons (mC (.int 1)) (aNil))) (mOp idxT (mLst (aCons (mC (.int 0)) (aCons (mC (.int 7)) (aCons (mC (.int 6)) (aNil))))) (mOp modT (mOp idxT (mVar 1) (mC (.int 4))) (mC (.int 3))))) (aNil))))) (sNil)) (sCons (sIf (bOp eqT (mVar 6) (mC (.int 7))) (sSetIx (pVar 3) (mC (.int 1)) (mOp mulT (mLst (aCons (mC (.int 0)) (aNil))) (mCall lenT (aCons (mOp idxT (mVar 3) (mC (.int 1))) (aNil))))) (sNil)) (sFrz 3 (sCons (sIf (bOp eqT (mVar 6) (mC (.int 8))) (sSet 3 (mLst (aCons (mOp addT (mOp idxT (mVar 3) (mC (.int 0))) (mLst (aCons (mC (.int 1)) (aNil)))) (aCons (mOp addT (mOp idxT (mVar 3) (mC (.int 1))) (mLst (aCons (mC (.int 1)) (aNil)))) (aNil))))) (sNil)) (sCons (sSetIx (pVar 0) (mVar 2) (mTup (aCons (mCall tupleT (aCons (mOp idxT (mVar 3) (mC (.int 0))) (aNil))) (aCons (mCall tupleT (aCons (mOp idxT (mVar 3) (mC (.int 1))) (aNil))) (aNil))))) (sFrz 0 (sCons (sIf (bOp gtT (mVar 6) (mC (.int 8))) (sSet 0 (mSlice (mOp mulT (mVar 0) (mC (.int 13))) (oNone) (oSome (mOp idxT (mLst (aCons (mC (.int 0)) (aCons (mC (.int 12)) (aCons (mC (.int 13)) (aNil))))) (mOp modT (mOp idxT (mVar 1) (mC (.int 4))) (mC (.int 3))))))) (sNil)) (sCons (sIf (bOp eqT (mOp modT (mOp idxT (mVar 1) (mC (.int 5))) (mC (.int 5))) (mC (.int 0))) (sSet 0 (mOp mulT (mLc (iSeqB (mVar 0)) [7] (gNm 7) (bYes) (mOp idxT (mVar 0) (mOp modT (mVar 2) (mCall lenT (aCons (mVar 0) (aNil)))))) (mCall intT (aCons (mOp neT (mVar 0) (mLst (aNil))) (aNil))))) (sNil)) (sRetV 0))))))))))))))))))
def Q.law_due_L1 : SM := sCons (sIf (bOr (bNot (bVal (mChain leT leT (mC (.int 1)) (mCall lenT (aCons (mVar 1) (aNil))) (mC (.int 6))))) (bOp neT (mCall lenT (aCons (mVar 1) (aNil))) (mCall lenT (aCons (mVar 2) (aNil))))) (sRet (mC (.bool false))) (sNil)) (sCons (sIf (bOr (bOp neT (mCall lenT (aCons (mVar 1) (aNil))) (mCall lenT (aCons (mOp idxT (mOp idxT (mVar 0) (mC (.int 0))) (mC (.int 0))) (aNil)))) (bOp gtT (mCall maxT (aCons (mOp addT (mVar 1) (mVar 2)) (aNil))) (mOp powT (mC (.int 10)) (mC (.int 6))))) (sRet (mC (.bool false))) (sNil)) (sIf (bOr (bOp ltT (mCall minT (aCons (mVar 1) (aNil))) (mC (.int 1))) (bOr (bOp ltT (mCall minT (aCons (mVar 2) (aNil))) (mC (.int 0))) (bOp ltT (mCall maxT (aCons (mVar 2) (aNil))) (mC (.int 1))))) (sRet (mC (.bool false))) (sNil)))
def Q.law_due : List T → Option T := runFn 3 (sCons (sIf (bOr (bOp ltT (mCall lenT (aCons (mVar 0) (aNil))) (mC (.int 1))) (bOp gtT (mCall lenT (aCons (mVar 0) (aNil))) (mC (.int 12)))) (sRet (mC (.bool false))) (sNil)) (sCons (sFor (iSeq (mVar 0)) (gTp (gCn (gNm 1) (gCn (gNm 2) (gNl)))) (Q.law_due_L1)) (sRet (mC (.bool true)))))
def Q.law_best_good_L1 : SM := sCons (sSet 5 (mOp mulT (mOp addT (mC (.int 1)) (mOp modT (mOp idxT (mVar 1) (mVar 4)) (mC (.int 9)))) (mOp idxT (mVar 0) (mVar 3)))) (sIf (bOp gtT (mVar 5) (mOp mulT (mOp addT (mC (.int 1)) (mOp modT (mOp idxT (mVar 1) (mVar 3)) (mC (.int 9)))) (mOp idxT (mVar 0) (mVar 4)))) (sSet 3 (mVar 4)) (sNil))
def Q.law_best_good : List T → Option T := runFn 6 (sCons (sSet 3 (mC (.int 0))) (sCons (sFor (iRng1 (mCall lenT (aCons (mVar 0) (aNil)))) (gNm 4) (Q.law_best_good_L1)) (sRet (mLc (iRng1 (mCall lenT (aCons (mVar 0) (aNil)))) [4] (gNm 4) (bYes) (mOp mulT (mVar 2) (mCall intT (aCons (mOp eqT (mVar 4) (mVar 3)) (aNil))))))))
def Q.law_a_book_L1 : SM := sCons (sSet 10 (mCall (callT Q.law_draws) (aCons (mOp addT (mCall (callT Q.law_cell_at) (aCons (mVar 0) (aCons (mOp addT (mVar 1) (mC (.int 1))) (aNil)))) (mOp mulT (mVar 9) (mOp addT (mOp idxT (mVar 3) (mC (.int 6))) (mC (.int 1))))) (aCons (mC (.int 14)) (aCons (mOp powT (mC (.int 10)) (mC (.int 9))) (aNil)))))) (sCons (sSet 11 (mLc (iSeqB (mSlice (mVar 10) (oNone) (oSome (mVar 4)))) [15] (gNm 15) (bYes) (mOp addT (mC (.int 1)) (mOp modT (mVar 15) (mVar 6))))) (sCons (sSet 12 (mSlice (mVar 10) (oSome (mC (.int 6))) (oSome (mOp addT (mC (.int 6)) (mVar 4))))) (sCons (sSet 13 (mLc (iSeqB (mVar 12)) [15] (gNm 15) (bYes) (mOp mulT (mOp modT (mVar 15) (mOp addT (mVar 6) (mC (.int 1)))) (mCall intT (aCons (mOp gtT (mOp modT (mVar 15) (mC (.int 5))) (mC (.int 0))) (aNil)))))) (sCons (sIf (bOp eqT (mVar 7) (mC (.int 1))) (sSet 13 (mCall (callT Q.law_best_good) (aCons (mVar 11) (aCons (mSlice (mVar 3) (oSome (mC (.int 6))) (oSome (mOp addT (mC (.int 6)) (mVar 4)))) (aCons (mOp addT (mC (.int 1)) (mOp modT (mOp idxT (mVar 10) (mC (.int 12))) (mVar 6))) (aNil)))))) (sNil)) (sCons (sIf (bOp eqT (mVar 7) (mC (.int 2))) (sSet 13 (mLc (iSeqB (mVar 11)) [16] (gNm 16) (bYes) (mOp subT (mOp addT (mVar 6) (mC (.int 1))) (mVar 16)))) (sNil)) (sCons (sIf (bOp eqT (mOp modT (mOp idxT (mVar 10) (mC (.int 13))) (mC (.int 9))) (mC (.int 0))) (sSet 13 (mLc (iSeqB (mSlice (mVar 10) (oSome (mC (.int 6))) (oSome (mOp addT (mC (.int 6)) (mVar 4))))) [15] (gNm 15) (bYes) (mOp modT (mVar 15) (mVar 6)))) (sNil)) (sCons (sSetF 13 (mLcF (iSeqB (mVar 13)) [17] (gNm 17) (bYes) (mCall minT (aCons (mOp powT (mC (.int 10)) (mC (.int 6))) (aCons (mVar 17) (aNil)))))) (sCons (sIf (bOp eqT (mCall maxT (aCons (mVar 13) (aNil))) (mC (.int 0))) (sSetIx (pVar 13) (mOp modT (mOp idxT (mVar 10) (mC (.int 12))) (mVar 4)) (mC (.int 1))) (sNil)) (sFrz 13 (sCons (sSet 14 (mTup (aCons (mCall tupleT (aCons (mVar 11) (aNil))) (aCons (mCall tupleT (aCons (mVar 13) (aNil))) (aNil))))) (sCons (sIf (bAnd (bOp neT (mVar 8) (mLst (aNil))) (bOp eqT (mOp modT (mOp fdivT (mOp idxT (mVar 10) (mC (.int 13))) (mC (.int 9))) (mC (.int 7))) (mC (.int 0)))) (sSet 14 (mTup (aCons (mOp idxT (mVar 14) (mC (.int 0))) (aCons (mOp idxT (mOp idxT (mVar 8) (mOp modT (mOp fdivT (mOp idxT (mVar 10) (mC (.int 13))) (mC (.int 63))) (mCall lenT (aCons (mVar 8) (aNil))))) (mC (.int 1))) (aNil))))) (sNil)) (sAppend (pVar 8) (mVar 14)))))))))))))
def Q.law_a_book : List T → Option T := runFn 18 (sCons (sSet 3 (mCall (callT Q.law_draws) (aCons (mCall (callT Q.law_cell_at) (aCons (mVar 0) (aCons (mVar 1) (aNil)))) (aCons (mC (.int 12)) (aCons (mOp powT (mC (.int 10)) (mC (.int 6))) (aNil)))))) (sCons (sSet 4 (mOp idxT (mLst (aCons (mOp addT (mC (.int 1)) (mOp modT (mOp idxT (mVar 3) (mC (.int 0))) (mC (.int 6)))) (aCons (mC (.int 2)) (aCons (mOp addT (mC (.int 2)) (mOp modT (mOp idxT (mVar 3) (mC (.int 0))) (mC (.int 2)))) (aNil))))) (mOp modT (mOp idxT (mVar 3) (mC (.int 1))) (mC (.int 3))))) (sCons (sSet 5 (mOp idxT (mLst (aCons (mOp addT (mC (.int 1)) (mOp modT (mOp idxT (mVar 3) (mC (.int 2))) (mVar 2))) (aCons (mOp addT (mC (.int 1)) (mOp modT (mOp idxT (mVar 3) (mC (.int 2))) (mCall minT (aCons (mVar 2) (aCons (mC (.int 4)) (aNil)))))) (aNil)))) (mOp fdivT (mOp modT (mOp idxT (mVar 3) (mC (.int 3))) (mC (.int 3))) (mC (.int 2))))) (sCons (sSet 6 (mOp idxT (mLst (aCons (mC (.int 3)) (aCons (mC (.int 9)) (aCons (mC (.int 60)) (aCons (mOp powT (mC (.int 10)) (mC (.int 6))) (aNil)))))) (mOp modT (mOp idxT (mVar 3) (mC (.int 4))) (mC (.int 4))))) (sCons (sSet 7 (mOp modT (mOp idxT (mVar 3) (mC (.int 5))) (mC (.int 5)))) (sCons (sSetF 8 (mLstF (aNil))) (sCons (sFor (iRng1 (mVar 5)) (gNm 9) (Q.law_a_book_L1)) (sRetV 8))))))))
def Q.is_buying : List T → Option T := runFn 5 (sCons (sAsg (gTp (gCn (gNm 1) (gCn (gNm 2) (gNl)))) (mVar 0)) (sCons (sIf (bOr (bNot (bVal (mChain leT leT (mC (.int 1)) (mCall lenT (aCons (mVar 1) (aNil))) (mC (.int 6))))) (bOp neT (mCall lenT (aCons (mVar 1) (aNil))) (mCall lenT (aCons (mVar 2) (aNil))))) (sRet (mC (.bool false))) (sNil)) (sCons (sIf (bNot (bVal (mCall allT (aCons (mLc (iSeqB (mVar 1)) [3] (gNm 3) (bYes) (mChain leT leT (mC (.int 1)) (mVar 3) (mC (.int 1000000)))) (aNil))))) (sRet (mC (.bool false))) (sNil)) (sRet (mAnd (mCall allT (aCons (mLc (iSeqB (mVar 2)) [4] (gNm 4) (bYes) (mChain leT leT (mC (.int 0)) (mVar 4) (mC (.int 1000000)))) (aNil))) (mOp gtT (mCall maxT (aCons (mVar 2) (aNil))) (mC (.int 0))))))))
def Q.is_book : List T → Option T := runFn 2 (sCons (sIf (bOr (bNot (bVal (mChain leT leT (mC (.int 1)) (mCall lenT (aCons (mVar 0) (aNil))) (mC (.int 12))))) (bNot (bVal (mCall allT (aCons (mLc (iSeqB (mVar 0)) [1] (gNm 1) (bYes) (mCall (callT Q.is_buying) (aCons (mVar 1) (aNil)))) (aNil)))))) (sRet (mC (.bool false))) (sNil)) (sRet (mCall allT (aCons (mLc (iSeqB (mVar 0)) [1] (gNm 1) (bYes) (mOp eqT (mCall lenT (aCons (mOp idxT (mVar 1) (mC (.int 0))) (aNil))) (mCall lenT (aCons (mOp idxT (mOp idxT (mVar 0) (mC (.int 0))) (mC (.int 0))) (aNil))))) (aNil)))))
end
/-! B1: evaluation of mirrors: loops by invariants, first defs. -/
namespace B
open PySem PySem.Spec PyProof.Rows L2 M

theorem forRun_inv {g : D → En → Option En} {mb : SM} (P : Nat → En → Prop) : ∀ (ds : List D) (env : En) (k : Nat), P k env →
    (∀ i d e, ds[i]? = some d → P (k + i) e → ∃ e1 e2, g d e = some e1 ∧ (mb e1 = some (.nx e2) ∨ mb e1 = some (.ct e2)) ∧ P (k + i + 1) e2) → ∃ e, forRun g mb ds env = some (.nx e) ∧ P (k + ds.length) e
  | [], env, k, h, _ => ⟨env, rfl, h⟩
  | d :: r, env, k, h, hs => by
    obtain ⟨e1, e2, h1, h2, h3⟩ := hs 0 d env rfl h
    obtain ⟨e, h4, h5⟩ := forRun_inv P r e2 (k + 1) h3 (fun i d' e' hd hp => by
      have := hs (i + 1) d' e' (by simpa using hd) (by rw [show k + (i + 1) = k + 1 + i by omega]; exact hp)
      rw [show k + (i + 1) + 1 = k + 1 + i + 1 by omega] at this
      exact this)
    refine ⟨e, ?_, by rw [List.length_cons, show k + (r.length + 1) = k + 1 + r.length by omega]; exact h5⟩
    simp only [forRun, h1, Option.bind_some]
    rcases h2 with h2 | h2 <;> simp only [h2, Option.bind_some, h4]

theorem fmod_pos {a b : Int} (h : 0 < b) : a.fmod b = a % b := Int.fmod_eq_emod_of_nonneg a (by omega)
theorem fdiv_pos {a b : Int} (h : 0 < b) : a.fdiv b = a / b := Int.fdiv_eq_ediv_of_nonneg a (by omega)
/-- draws: so many numbers from 0 to base -/
theorem draws (cell many base : Int) (hm : 0 ≤ many) (hm2 : many ≤ 1000) (hb : 0 < base) (hb2 : base < 2 ^ 60) :
    ∃ xs : List Int, Q.law_draws [.p (.int cell), .p (.int many), .p (.int base)] = some (.ml (xs.map fun x => T.p (.int x))) ∧ xs.length = many.toNat ∧ ∀ x ∈ xs, 0 ≤ x ∧ x < base := by
  unfold Q.law_draws runFn startE
  have hs : smallI (many + 3) := by unfold smallI; omega
  have hml : mulOk cell (if 1000000000000000000 ≤ cell then 1 else 0) = true := mulOk_r (by split <;> decide)
  have h48 : ∀ x : Int, mulOk 48271 x = true := fun x => mulOk_l (by decide)
  simp [LIM, hml, hs]
  generalize hr0 : cell * (if 1000000000000000000 ≤ cell then 1 else 0) = rest0
  let P : Nat → En → Prop := fun i e => ∃ (xs : List Int) (rest st : Int) (lk : Option T), e = [some (T.p (.int cell)), some (T.p (.int many)), some (T.p (.int base)), some (.ml (xs.map fun x => T.p (.int x))), some (.p (.int rest)), some (.p (.int st)), lk] ∧ xs.length = i - 3 ∧ (∀ x ∈ xs, 0 ≤ x ∧ x < base) ∧ 0 ≤ st ∧ st < 2305843009213693951
  have h0 : P 0 [some (T.p (.int cell)), some (T.p (.int many)), some (T.p (.int base)), some (.ml []), some (.p (.int rest0)), some (.p (.int (cell.fmod 2305843009213693951))), none] := by
    refine ⟨[], rest0, _, none, rfl, rfl, by simp, ?_⟩
    rw [fmod_pos (by decide)]
    omega
  have hstep : ∀ i d e, (rangeD 0 (many + 3))[i]? = some d → P (0 + i) e → ∃ e1 e2, gNm 6 d e = some e1 ∧ (Q.law_draws_L1 e1 = some (.nx e2) ∨ Q.law_draws_L1 e1 = some (.ct e2)) ∧ P (0 + i + 1) e2 := by
    rintro i d e hd ⟨xs, rest, st, lk, rfl, hl, hx, h0, h1⟩
    unfold Q.law_draws_L1
    have hi : i < (many + 3).toNat := by
      have := (List.getElem?_eq_some_iff.mp hd).1
      simpa [rangeD] using this
    have hd' : d = .int i := by
      simp [rangeD, hi] at hd
      exact hd.symm
    subst hd'
    have hst : mulOk st st = true := mulOk_l (by omega)
    have h4 : divOk 4096 = true := by decide
    have hbd : divOk base = true := divOk_small (by omega) (by omega)
    have hb0 : base ≠ 0 := by omega
    generalize hn : ((st * st + 48271 * st + (i : Int) + 1) % 2305843009213693951) = st'
    have hst' : 0 ≤ st' ∧ st' < 2305843009213693951 := by
      rw [← hn]; omega
    have hfl : xs.length < 1000000 := by omega
    by_cases hi2 : (2 : Int) < (i : Int)
    · have hi3 : 2 < i := by omega
      by_cases hr : 0 < rest
      · refine ⟨_, [some (T.p (.int cell)), some (T.p (.int many)), some (T.p (.int base)), some (.ml ((xs ++ [rest.fmod base]).map fun x => T.p (.int x))), some (.p (.int (rest.fdiv base))), some (.p (.int st')), some (.p (.int i))], rfl, .inl ?_, xs ++ [rest.fmod base], _, _, _, rfl, ?_, ?_, hst'⟩
        · simp [hst, h48, hi2, hi3, hr, hb0, hbd, LIM, hfl, fmod_pos, hn]
        · simp; omega
        · intro x hx'
          rcases List.mem_append.mp hx' with z | z
          · exact hx x z
          · have : x = rest.fmod base := by simpa using z
            subst this
            rw [fmod_pos hb]
            exact ⟨Int.emod_nonneg _ (by omega), Int.emod_lt_of_pos _ hb⟩
      · refine ⟨_, [some (T.p (.int cell)), some (T.p (.int many)), some (T.p (.int base)), some (.ml ((xs ++ [(st'.fdiv 4096).fmod base]).map fun x => T.p (.int x))), some (.p (.int rest)), some (.p (.int st')), some (.p (.int i))], rfl, .inl ?_, xs ++ [(st'.fdiv 4096).fmod base], _, _, _, rfl, ?_, ?_, hst'⟩
        · simp [hst, h48, hi2, hi3, hr, hb0, h4, LIM, hfl, fmod_pos, hn]
        · simp; omega
        · intro x hx'
          rcases List.mem_append.mp hx' with z | z
          · exact hx x z
          · have : x = (st'.fdiv 4096).fmod base := by simpa using z
            subst this
            rw [fmod_pos hb]
            exact ⟨Int.emod_nonneg _ (by omega), Int.emod_lt_of_pos _ hb⟩
    · have hi3 : ¬ 2 < i := by omega
      refine ⟨_, [some (T.p (.int cell)), some (T.p (.int many)), some (T.p (.int base)), some (.ml (xs.map fun x => T.p (.int x))), some (.p (.int rest)), some (.p (.int st')), some (.p (.int i))], rfl, .inl ?_, xs, _, _, _, rfl, ?_, hx, hst'⟩
      · simp [hst, h48, hi2, hi3, fmod_pos, hn]
      · omega
  obtain ⟨e, he, xs, rest, st, lk, hee, hl, hx⟩ := forRun_inv P _ _ 0 h0 hstep
  refine ⟨xs, ?_, ?_, hx.1⟩
  · rw [he, hee]
    simp
  · rw [hl]
    simp [rangeD]
    omega
end B
/-! B2: books. -/
namespace B
open PySem PySem.Spec PyProof.Rows L2 M

abbrev Buy := List Int × List Int
def enI (xs : List Int) : List D := xs.map PyData.int
def enB (b : Buy) : D := .tuple [.tuple (enI b.1), .tuple (enI b.2)]
def enBk (bk : List Buy) : D := .list (bk.map enB)
structure Good (n : Nat) (b : Buy) : Prop where
  lp : b.1.length = n
  la : b.2.length = n
  pr : ∀ p ∈ b.1, 1 ≤ p ∧ p ≤ 1000000
  am : ∀ a ∈ b.2, 0 ≤ a ∧ a ≤ 1000000
  ps : ∃ a ∈ b.2, 0 < a
structure ValidBook (n : Nat) (bk : List Buy) : Prop where
  n1 : 1 ≤ n
  n6 : n ≤ 6
  ne : 1 ≤ bk.length
  all : ∀ b ∈ bk, Good n b

theorem stepS {a b : SM} {env e : En} (h : a env = some (.nx e)) : sCons a b env = b e := by simp [h]
theorem lcRun_of {α : Type} {g : D → En → Option En} {tt : En → Option Bool} {me : EM} {env : En} (en : α → D) (p : α → Bool) (f : α → D) : ∀ (xs : List α), (∀ x ∈ xs, ∃ e, g (en x) env = some e ∧ tt e = some (p x) ∧ (p x = true → me e = some (.p (f x)))) →
    lcRun g tt me env (xs.map en) = some ((xs.filter p).map f)
  | [], _ => rfl
  | x :: r, h => by
    obtain ⟨e, h1, h2, h3⟩ := h x List.mem_cons_self
    have ih := lcRun_of en p f r (fun y hy => h y (List.mem_cons_of_mem _ hy))
    simp only [List.map_cons, lcRun, h1, h2, Option.bind_some]
    cases hp : p x with
    | true => simp [h3 hp, ih, hp]
    | false => simp [ih, hp]
theorem lcRun_map {α : Type} {g : D → En → Option En} {tt : En → Option Bool} {me : EM} {env : En} (en : α → D) (f : α → D) (xs : List α) (h : ∀ x ∈ xs, ∃ e, g (en x) env = some e ∧ tt e = some true ∧ me e = some (.p (f x))) :
    lcRun g tt me env (xs.map en) = some (xs.map f) := by
  have := lcRun_of (g := g) (tt := tt) (me := me) (env := env) en (fun _ => true) f xs (fun x hx => by
    obtain ⟨e, h1, h2, h3⟩ := h x hx
    exact ⟨e, h1, h2, fun _ => h3⟩)
  rw [this, List.filter_eq_self.mpr (fun _ _ => rfl)]
theorem lc_ints {g : D → En → Option En} {tt : En → Option Bool} {me : EM} {env : En} (f : Int → Int) (xs : List Int) (h : ∀ x ∈ xs, ∃ e, g (.int x) env = some e ∧ tt e = some true ∧ me e = some (.p (.int (f x)))) :
    lcRun g tt me env (enI xs) = some (enI (xs.map f)) := by
  have := lcRun_map PyData.int (fun x => .int (f x)) xs h
  unfold enI
  rw [this, List.map_map]
  rfl
theorem cut_to {α : Type} (xs : List α) (k : Int) (h : 0 ≤ k) : cutL xs none (some k) = xs.take k.toNat := by
  unfold cutL HT.sIx
  simp only [if_neg (show ¬ k < 0 by omega)]
  simp
theorem cut_ft {α : Type} (xs : List α) (a b : Int) (h : 0 ≤ a) (h2 : 0 ≤ b) : cutL xs (some a) (some b) = (xs.drop a.toNat).take (b.toNat - a.toNat) := by
  unfold cutL HT.sIx
  simp only [if_neg (show ¬ a < 0 by omega), if_neg (show ¬ b < 0 by omega)]
  by_cases ha : a.toNat ≤ xs.length
  · rw [Nat.min_eq_left ha, List.take_eq_take_iff]
    simp
    omega
  · rw [List.drop_eq_nil_of_le (by omega), List.drop_eq_nil_of_le (by omega)]
    simp
theorem enI_length (xs : List Int) : (enI xs).length = xs.length := by simp [enI]
theorem atI_enI {xs : List Int} {i : Int} (h0 : 0 ≤ i) (h1 : i < xs.length) : atI (enI xs) i = some (.int (xs.getD i.toNat 0)) := by
  rw [atI_lt h0 (by rw [enI_length]; exact h1)]
  unfold enI
  have : i.toNat < xs.length := by omega
  simp [List.getD, this]
theorem getD_mem {xs : List Int} {k : Nat} (h : k < xs.length) : xs.getD k 0 ∈ xs := by
  simp [List.getD, h]
theorem callT_ml {fn : List T → Option T} {ts : List T} {xs : List Int} (hf : ts.all T.frozen = true) (h : fn ts = some (.ml (xs.map fun x => T.p (.int x)))) : callT fn ts = some (.p (.list (enI xs))) := by
  unfold callT
  rw [if_pos hf, h]
  simp only [Option.bind_some, T.snap, snaps_ints, Option.map_some]
  rfl
theorem callT_p {fn : List T → Option T} {ts : List T} {d : D} (hf : ts.all T.frozen = true) (h : fn ts = some (.p d)) : callT fn ts = some (.p d) := by
  unfold callT
  rw [if_pos hf, h]
  simp
theorem c_draws (cell many base : Int) (hm : 0 ≤ many) (hm2 : many ≤ 1000) (hb : 0 < base) (hb2 : base < 2 ^ 60) :
    ∃ xs : List Int, callT Q.law_draws [.p (.int cell), .p (.int many), .p (.int base)] = some (.p (.list (enI xs))) ∧ xs.length = many.toNat ∧ ∀ x ∈ xs, 0 ≤ x ∧ x < base := by
  obtain ⟨xs, h1, h2, h3⟩ := draws cell many base hm hm2 hb hb2
  exact ⟨xs, callT_ml rfl h1, h2, h3⟩
theorem c_cell_at (ns : List Int) (k : Int) (hk : 0 ≤ k) : ∃ c, callT Q.law_cell_at [.sc ns, .p (.int k)] = some (.p (.int c)) := by
  by_cases h : k < (ns.length : Int)
  · refine ⟨ns[k.toNat]'(by omega), callT_p rfl ?_⟩
    unfold Q.law_cell_at runFn startE
    simp [h, atI_lt hk h]
  · refine ⟨0, callT_p rfl ?_⟩
    unfold Q.law_cell_at runFn startE
    simp [h]

theorem best_good (ps ws : List Int) (m : Int) (hp : ps ≠ []) (hl : ps.length ≤ ws.length) (hps : ∀ p ∈ ps, 1 ≤ p ∧ p ≤ 1000000) (hlen : ps.length ≤ 6) :
    ∃ b : Nat, b < ps.length ∧ callT Q.law_best_good [.p (.list (enI ps)), .p (.list (enI ws)), .p (.int m)] = some (.p (.list (enI ((List.range ps.length).map fun k => m * (if k = b then 1 else 0))))) := by
  have hlp : 0 < ps.length := List.length_pos_iff.mpr hp
  let P : Nat → En → Prop := fun i e => ∃ (b : Nat) (o4 o5 : Option T), e = [some (.p (.list (enI ps))), some (.p (.list (enI ws))), some (.p (.int m)), some (.p (.int b)), o4, o5] ∧ b < ps.length
  have hstep : ∀ i d e, (rangeD 0 ps.length)[i]? = some d → P (0 + i) e → ∃ e1 e2, gNm 4 d e = some e1 ∧ (Q.law_best_good_L1 e1 = some (.nx e2) ∨ Q.law_best_good_L1 e1 = some (.ct e2)) ∧ P (0 + i + 1) e2 := by
    rintro i d e hd ⟨b, o4, o5, rfl, hb⟩
    have hi : i < ps.length := by
      have := (List.getElem?_eq_some_iff.mp hd).1
      simpa [rangeD] using this
    have hd' : d = .int i := by
      simp [rangeD, hi] at hd
      exact hd.symm
    subst hd'
    have a1 : atI (enI ws) (i : Int) = some (.int (ws.getD i 0)) := by
      have := atI_enI (xs := ws) (i := (i : Int)) (by omega) (by omega)
      simpa using this
    have a2 : atI (enI ws) (b : Int) = some (.int (ws.getD b 0)) := by
      have := atI_enI (xs := ws) (i := (b : Int)) (by omega) (by omega)
      simpa using this
    have a3 : atI (enI ps) (i : Int) = some (.int (ps.getD i 0)) := by
      have := atI_enI (xs := ps) (i := (i : Int)) (by omega) (by omega)
      simpa using this
    have a4 : atI (enI ps) (b : Int) = some (.int (ps.getD b 0)) := by
      have := atI_enI (xs := ps) (i := (b : Int)) (by omega) (by omega)
      simpa using this
    have m1 : ∀ x : Int, mulOk (1 + x.fmod 9) (ps.getD b 0) = true := fun x => mulOk_l (by rw [fmod_pos (by decide)]; omega)
    have m2 : ∀ x : Int, mulOk (1 + x.fmod 9) (ps.getD i 0) = true := fun x => mulOk_l (by rw [fmod_pos (by decide)]; omega)
    unfold Q.law_best_good_L1
    by_cases hc : (1 + (ws.getD b 0).fmod 9) * ps.getD i 0 < (1 + (ws.getD i 0).fmod 9) * ps.getD b 0
    · exact ⟨_, [some (.p (.list (enI ps))), some (.p (.list (enI ws))), some (.p (.int m)), some (.p (.int (i : Int))), some (.p (.int (i : Int))), some (.p (.int ((1 + (ws.getD i 0).fmod 9) * ps.getD b 0)))], rfl, .inl (by simp [-List.getD_eq_getElem?_getD, a1, a2, a3, a4, m1, m2, hc]), i, _, _, rfl, hi⟩
    · exact ⟨_, [some (.p (.list (enI ps))), some (.p (.list (enI ws))), some (.p (.int m)), some (.p (.int (b : Int))), some (.p (.int (i : Int))), some (.p (.int ((1 + (ws.getD i 0).fmod 9) * ps.getD b 0)))], rfl, .inl (by simp [-List.getD_eq_getElem?_getD, a1, a2, a3, a4, m1, m2, hc]), b, _, _, rfl, hb⟩
  obtain ⟨e, he, b, o4, o5, hee, hb⟩ := forRun_inv P (rangeD 0 ps.length) [some (.p (.list (enI ps))), some (.p (.list (enI ws))), some (.p (.int m)), some (.p (.int 0)), none, none] 0 ⟨0, _, _, rfl, hlp⟩ hstep
  refine ⟨b, hb, callT_p rfl ?_⟩
  unfold Q.law_best_good runFn startE
  have hs : smallI (ps.length : Int) := by unfold smallI; omega
  have hr : ∀ e, lcRun (gNm 4) bYes (mOp mulT (mVar 2) (mCall intT (aCons (mOp eqT (mVar 4) (mVar 3)) (aNil)))) [some (.p (.list (enI ps))), some (.p (.list (enI ws))), some (.p (.int m)), some (.p (.int (b : Int))), none, e] (rangeD 0 ps.length) = some (enI ((List.range ps.length).map fun k => m * (if k = b then 1 else 0))) := by
    intro e
    unfold rangeD
    have hz : ((ps.length : Int) - 0).toNat = ps.length := by omega
    rw [hz, lcRun_map (fun k : Nat => PyData.int (0 + (k : Int))) (fun k => .int (m * (if k = b then 1 else 0))) (List.range ps.length)]
    · unfold enI
      rw [List.map_map]
      rfl
    · intro k hk
      refine ⟨_, rfl, rfl, ?_⟩
      have hm : mulOk m (if k = b then 1 else 0) = true := mulOk_r (by split <;> decide)
      have hkb : ((k : Int) = (b : Int)) ↔ k = b := Int.ofNat_inj
      simp [hkb, hm]
  have hq : ps.length ≤ LIM := by unfold LIM; omega
  simp [enI_length, hs, he, hee, hr, hq]

theorem maxT_ints {xs : List Int} {m : Int} (h : maxI xs = some m) : maxT [.p (.list (enI xs))] = some (.p (.int m)) := by
  unfold enI
  simp [maxT, intsOf_map, h]
theorem maxT_mints {xs : List Int} {m : Int} (h : maxI xs = some m) : maxT [.ml ((enI xs).map T.p)] = some (.p (.int m)) := by
  have : (T.ml ((enI xs).map T.p)).any? = some (enI xs) := by
    simp only [T.any?, T.seq?, pures_map]
  have h2 : intsOf (enI xs) = some xs := intsOf_map xs
  simp only [maxT, this, Option.bind_some, h2, h, Option.map_some]
theorem maxI_some {xs : List Int} (h : xs ≠ []) : ∃ m, maxI xs = some m := by
  cases xs with
  | nil => exact absurd rfl h
  | cons x r => exact ⟨_, rfl⟩
theorem ixN_of {n : Nat} {i : Int} (h0 : 0 ≤ i) (h1 : i < n) : ixN n i = some i.toNat := by
  unfold ixN
  rw [if_pos h0, if_pos h1]
/-- what all amounts of the law's books keep -/
def Am (n : Nat) (xs : List Int) : Prop := xs.length = n ∧ ∀ x ∈ xs, 0 ≤ x

theorem setset {α : Type} (l : List α) (i : Nat) (a : α) (h : l[i]? = some a) : l.set i a = l := by
  apply List.ext_getElem?
  intro j
  by_cases hj : i = j
  · subst hj
    rw [List.getElem?_set_self' , h]
    rfl
  · rw [List.getElem?_set_ne hj]

theorem exS {a b : SM} {env : En} {Post : En → Prop} (Q : En → Prop) (h1 : ∃ e, a env = some (.nx e) ∧ Q e) (h2 : ∀ e, Q e → ∃ e', b e = some (.nx e') ∧ Post e') : ∃ e', sCons a b env = some (.nx e') ∧ Post e' := by
  obtain ⟨e, h3, h4⟩ := h1
  obtain ⟨e', h5, h6⟩ := h2 e h4
  exact ⟨e', by rw [stepS h3]; exact h5, h6⟩
theorem exE {a b : SM} {env : En} {Post : En → Prop} (e : En) (h1 : a env = some (.nx e)) (h2 : ∃ e', b e = some (.nx e') ∧ Post e') : ∃ e', sCons a b env = some (.nx e') ∧ Post e' := by
  obtain ⟨e', h5, h6⟩ := h2
  exact ⟨e', by rw [stepS h1]; exact h5, h6⟩
theorem atI_ex {xs : List Int} {i : Int} (h0 : 0 ≤ i) (h1 : i < xs.length) : ∃ x ∈ xs, atI (enI xs) i = some (.int x) := ⟨_, getD_mem (by omega), atI_enI h0 h1⟩
theorem getE_set_ne {α : Type} {l : List α} {i j : Nat} {a : α} (h : i ≠ j) : (l.set i a)[j]? = l[j]? := List.getElem?_set_ne h

def BkInv (ns heads : List Int) (at' far way : Int) (goods : Nat) (i : Nat) (e : En) : Prop := e.length = 18 ∧ e[0]? = some (some (.sc ns)) ∧ e[1]? = some (some (.p (.int at'))) ∧ e[3]? = some (some (.p (.list (enI heads)))) ∧ e[4]? = some (some (.p (.int goods))) ∧ e[6]? = some (some (.p (.int far))) ∧ e[7]? = some (some (.p (.int way))) ∧
  ∃ bk : List Buy, e[8]? = some (some (.ml (bk.map fun b => T.p (enB b)))) ∧ bk.length = i ∧ ∀ b ∈ bk, Good goods b

theorem canLay_ints : ∀ xs : List Int, PyData.canLayAll0 (enI xs) = true
  | [] => by simp [enI, PyData.canLayAll0]
  | x :: r => by
    have := canLay_ints r
    unfold enI at *
    simp [PyData.canLayAll0, PyData.canLay0, this]
theorem depth_enI (xs : List Int) : PyData.depthAll (enI xs) = 0 := depth_ints xs
theorem depth_enB (b : Buy) : PyData.depth (enB b) = 2 := by
  simp [enB, PyData.depth, PyData.depthAll, depth_enI]
theorem lay_bk : ∀ bk : List Buy, PyData.canLayAll0 (bk.map enB) = true ∧ PyData.depthAll (bk.map enB) ≤ 2
  | [] => by simp [PyData.canLayAll0, PyData.depthAll]
  | b :: r => by
    obtain ⟨h1, h2⟩ := lay_bk r
    have h3 := depth_enB b
    refine ⟨?_, ?_⟩
    · simp [PyData.canLayAll0, h1, enB, PyData.canLay0, canLay_ints]
    · simp only [List.map_cons, PyData.depthAll, h3]
      omega
theorem shaped_bk (bk : List Buy) : SeqAt.shaped (.list (bk.map enB)) = true := by
  obtain ⟨h1, h2⟩ := lay_bk bk
  simp [SeqAt.shaped, PyData.canLay0, h1, PyData.depth]
  omega
theorem book_turn (ns heads : List Int) (at' far way : Int) (goods : Nat) (h1 : 0 ≤ at') (hh : heads.length = 12) (hh2 : ∀ x ∈ heads, 0 ≤ x ∧ x < 1000000) (hg1 : 1 ≤ goods) (hg2 : goods ≤ 6) (hf : 3 ≤ far) (hf2 : far ≤ 1000000)
    (e : En) (i : Nat) (hi : i < 1000) (hinv : BkInv ns heads at' far way goods i e) (e9 : e[9]? = some (some (.p (.int i)))) :
    ∃ e', Q.law_a_book_L1 e = some (.nx e') ∧ BkInv ns heads at' far way goods (i + 1) e' := by
  obtain ⟨hl, e0, e1, e3, e4, e6, e7, bk, e8, hbl, hbk⟩ := hinv
  obtain ⟨c, hc⟩ := c_cell_at ns (at' + 1) (by omega)
  obtain ⟨h6, hh6m, hh6⟩ := atI_ex (xs := heads) (i := 6) (by decide) (by omega)
  have hh6r := hh2 h6 hh6m
  obtain ⟨picks, hp, hpl, hpx⟩ := c_draws (c + i * (h6 + 1)) 14 1000000000 (by decide) (by decide) (by decide) (by decide)
  have hpl : picks.length = 14 := hpl
  have hm1 : mulOk (i : Int) (h6 + 1) = true := mulOk_l (by omega)
  unfold Q.law_a_book_L1
  -- picks
  refine exE (e.set 10 (some (.p (.list (enI picks))))) (by simp [e0, e1, e3, e9, hc, hh6, hm1, hp]) ?_
  -- prices
  have hf0 : far ≠ 0 := by omega
  have hf1 : far + 1 ≠ 0 := by omega
  have hr1 : ∀ E : En, E.length = 18 → E[6]? = some (some (.p (.int far))) → lcRun (gNm 15) bYes (mOp addT (mC (.int 1)) (mOp modT (mVar 15) (mVar 6))) (E.set 15 none) (enI (picks.take goods)) = some (enI ((picks.take goods).map fun x => 1 + x % far)) := by
    intro E hE h6
    refine lc_ints _ _ fun x hx => ⟨_, rfl, rfl, ?_⟩
    simp [-getElem?_pos, h6, hE, hf0, fmod_pos (show 0 < far by omega)]
  have hc1 : cutL (enI picks) none (some (goods : Int)) = enI (picks.take goods) := by
    rw [cut_to _ _ (by omega)]; simp [enI, List.map_take]
  have hc2 : cutL (enI picks) (some 6) (some (6 + (goods : Int))) = enI ((picks.drop 6).take goods) := by
    rw [cut_ft _ _ _ (by omega) (by omega)]
    rw [show (6 + (goods : Int)).toNat - (6 : Int).toNat = goods by omega]
    simp [enI, List.map_take, List.map_drop]
  have hgl : goods ≤ LIM := by unfold LIM; omega
  have hmin1 : min goods 14 = goods := by omega
  have hmin2 : min goods 8 = goods := by omega
  obtain ⟨prices, hprd⟩ : ∃ x, x = (picks.take goods).map fun x => 1 + x % far := ⟨_, rfl⟩
  obtain ⟨sm, hsmd⟩ : ∃ x, x = (picks.drop 6).take goods := ⟨_, rfl⟩
  rw [← hsmd] at hc2
  rw [← hprd] at hr1
  have hprl : prices.length = goods := by simp [hprd, hpl, hmin1]
  have hpr : ∀ p ∈ prices, 1 ≤ p ∧ p ≤ far := by
    intro p hp'
    rw [hprd] at hp'
    obtain ⟨x, _, rfl⟩ := List.mem_map.mp hp'
    have := Int.emod_nonneg x hf0
    have := Int.emod_lt_of_pos x (show 0 < far by omega)
    omega
  have hsml : sm.length = goods := by simp [hsmd, hpl, hmin2]
  have hsm : ∀ x ∈ sm, 0 ≤ x ∧ x < 1000000000 := fun x hx => hpx x (List.mem_of_mem_drop (List.mem_of_mem_take (hsmd ▸ hx)))
  refine exE ((e.set 10 (some (.p (.list (enI picks))))).set 11 (some (.p (.list (enI prices))))) (by
    have := hr1 (e.set 10 (some (.p (.list (enI picks))))) (by simp [hl]) (by simp [e6])
    simp [-getElem?_pos, hl, e4, hc1, this, enI_length, hprl, hgl]) ?_
  refine exE (((e.set 10 (some (.p (.list (enI picks))))).set 11 (some (.p (.list (enI prices))))).set 12 (some (.p (.list (enI sm))))) (by
    simp [-getElem?_pos, hl, e4, hc2]) ?_
  generalize hB : ((e.set 10 (some (.p (.list (enI picks))))).set 11 (some (.p (.list (enI prices))))).set 12 (some (.p (.list (enI sm)))) = B
  have bl : B.length = 18 := by rw [← hB]; simp [hl]
  have b0 : B[0]? = some (some (.sc ns)) := by rw [← hB]; simp [e0]
  have b1 : B[1]? = some (some (.p (.int at'))) := by rw [← hB]; simp [e1]
  have b3 : B[3]? = some (some (.p (.list (enI heads)))) := by rw [← hB]; simp [e3]
  have b4 : B[4]? = some (some (.p (.int goods))) := by rw [← hB]; simp [e4]
  have b6 : B[6]? = some (some (.p (.int far))) := by rw [← hB]; simp [e6]
  have b7 : B[7]? = some (some (.p (.int way))) := by rw [← hB]; simp [e7]
  have b8 : B[8]? = some (some (.ml (bk.map fun b => T.p (enB b)))) := by rw [← hB]; simp [e8]
  have b10 : B[10]? = some (some (.p (.list (enI picks)))) := by rw [← hB]; simp [-getElem?_pos, hl]
  have b11 : B[11]? = some (some (.p (.list (enI prices)))) := by rw [← hB]; simp [-getElem?_pos, hl]
  have b12 : B[12]? = some (some (.p (.list (enI sm)))) := by rw [← hB]; simp [-getElem?_pos, hl]
  clear hB
  have hlc : ∀ xs : List Int, xs.length = goods → (enI xs).length ≤ LIM := fun xs h => by rw [enI_length, h]; exact hgl
  -- amounts by chance
  refine exS (fun E => ∃ am, E = B.set 13 (some (.p (.list (enI am)))) ∧ Am goods am) ⟨_, by
    have : lcRun (gNm 15) bYes (mOp mulT (mOp modT (mVar 15) (mOp addT (mVar 6) (mC (.int 1)))) (mCall intT (aCons (mOp gtT (mOp modT (mVar 15) (mC (.int 5))) (mC (.int 0))) (aNil)))) (B.set 15 none) (enI sm) = some (enI (sm.map fun x => x % (far + 1) * (if 0 < x % 5 then 1 else 0))) := by
      refine lc_ints _ _ fun x hx => ⟨_, rfl, rfl, ?_⟩
      have hm : mulOk (x % (far + 1)) (if 0 < x % 5 then 1 else 0) = true := mulOk_r (by split <;> decide)
      simp [-getElem?_pos, b6, bl, hf1, fmod_pos (show 0 < far + 1 by omega), fmod_pos (show (0 : Int) < 5 by decide), hm]
    simp [-getElem?_pos, b12, bl, this, hlc (sm.map fun x => x % (far + 1) * (if 0 < x % 5 then 1 else 0)) (by simp [hsml])] <;> rfl, _, rfl, by simp [hsml], ?_⟩ ?_
  · intro x hx
    obtain ⟨y, _, rfl⟩ := List.mem_map.mp hx
    have := Int.emod_nonneg y hf1
    split <;> omega
  rintro _ ⟨am, rfl, ha⟩
  -- the best good
  obtain ⟨p12, hp12m, hp12⟩ := atI_ex (xs := picks) (i := 12) (by decide) (by omega)
  obtain ⟨p13, hp13m, hp13⟩ := atI_ex (xs := picks) (i := 13) (by decide) (by omega)
  have hp12r := hpx p12 hp12m
  have hp13r := hpx p13 hp13m
  refine exS (fun E => ∃ am, E = B.set 13 (some (.p (.list (enI am)))) ∧ Am goods am) ?_ ?_
  · by_cases hw : way = 1
    · have hc3 : cutL (enI heads) (some 6) (some (6 + (goods : Int))) = enI ((heads.drop 6).take goods) := by
        rw [cut_ft _ _ _ (by omega) (by omega)]
        rw [show (6 + (goods : Int)).toNat - (6 : Int).toNat = goods by omega]
        simp [enI, List.map_take, List.map_drop]
      obtain ⟨b, hb, hbg⟩ := best_good prices ((heads.drop 6).take goods) (1 + p12 % far) (fun z => by rw [z] at hprl; simp at hprl; omega) (by rw [hprl]; simp [hh]; omega) (fun p hp' => by have := hpr p hp'; omega) (by omega)
      refine ⟨_, by simp [-getElem?_pos, bl, b7, hw, b11, b3, b4, hc3, b10, hp12, b6, hf0, fmod_pos (show 0 < far by omega), hbg] <;> rfl, _, rfl, by simp [hprl], ?_⟩
      intro x hx
      obtain ⟨k, _, rfl⟩ := List.mem_map.mp hx
      have := Int.emod_nonneg p12 hf0
      split <;> omega
    · exact ⟨_, by simp [-getElem?_pos, bl, b7, hw] <;> rfl, am, rfl, ha⟩
  rintro _ ⟨am, rfl, ha⟩
  -- one that sates
  refine exS (fun E => ∃ am, E = B.set 13 (some (.p (.list (enI am)))) ∧ Am goods am) ?_ ?_
  · by_cases hw : way = 2
    · have : lcRun (gNm 16) bYes (mOp subT (mOp addT (mVar 6) (mC (.int 1))) (mVar 16)) ((B.set 13 (some (.p (.list (enI am))))).set 16 none) (enI prices) = some (enI (prices.map fun p => far + 1 - p)) := by
        refine lc_ints _ _ fun x hx => ⟨_, rfl, rfl, ?_⟩
        simp [-getElem?_pos, b6, bl]
      refine ⟨_, by simp [-getElem?_pos, bl, b7, hw, b11, this, hlc (prices.map fun p => far + 1 - p) (by simp [hprl])] <;> rfl, _, rfl, by simp [hprl], ?_⟩
      intro x hx
      obtain ⟨k, hk, rfl⟩ := List.mem_map.mp hx
      have := hpr k hk
      omega
    · exact ⟨_, by simp [-getElem?_pos, bl, b7, hw] <;> rfl, am, rfl, ha⟩
  rintro _ ⟨am, rfl, ha⟩
  -- otherwise
  refine exS (fun E => ∃ am, E = B.set 13 (some (.p (.list (enI am)))) ∧ Am goods am) ?_ ?_
  · by_cases hw : p13 % 9 = 0
    · have : lcRun (gNm 15) bYes (mOp modT (mVar 15) (mVar 6)) ((B.set 13 (some (.p (.list (enI am))))).set 15 none) (enI sm) = some (enI (sm.map fun p => p % far)) := by
        refine lc_ints _ _ fun x hx => ⟨_, rfl, rfl, ?_⟩
        simp [-getElem?_pos, b6, bl, hf0, fmod_pos (show 0 < far by omega)]
      refine ⟨_, by simp [-getElem?_pos, bl, b10, hp13, fmod_pos (show (0 : Int) < 9 by decide), hw, b4, hc2, this, hlc (sm.map fun p => p % far) (by simp [hsml])] <;> rfl, _, rfl, by simp [hsml], ?_⟩
      intro x hx
      obtain ⟨k, hk, rfl⟩ := List.mem_map.mp hx
      exact Int.emod_nonneg k hf0
    · exact ⟨_, by simp [-getElem?_pos, bl, b10, hp13, fmod_pos (show (0 : Int) < 9 by decide), hw] <;> rfl, am, rfl, ha⟩
  rintro _ ⟨am, rfl, ha⟩
  -- no more than a million
  have hcl : ∀ x ∈ am.map (fun x => min 1000000 x), 0 ≤ x ∧ x ≤ 1000000 := by
    intro x hx
    obtain ⟨k, hk, rfl⟩ := List.mem_map.mp hx
    have := ha.2 k hk
    omega
  refine exE (B.set 13 (some (.ml ((enI (am.map fun x => min 1000000 x)).map T.p)))) (by
    have : lcRun (gNm 17) bYes (mCall minT (aCons (mOp powT (mC (.int 10)) (mC (.int 6))) (aCons (mVar 17) (aNil)))) ((B.set 13 (some (.p (.list (enI am))))).set 17 none) (enI am) = some (enI (am.map fun x => min 1000000 x)) := by
      refine lc_ints _ _ fun x hx => ⟨_, rfl, rfl, ?_⟩
      simp [-getElem?_pos, bl]
    simp [-getElem?_pos, bl, this, hlc (am.map fun x => min 1000000 x) (by simp [ha.1])]) ?_
  generalize hcle : (am.map fun x => min 1000000 x) = cl at hcl
  have hcll : cl.length = goods := by rw [← hcle]; simp [ha.1]
  have hcne : cl ≠ [] := fun z => by rw [z] at hcll; simp at hcll; omega
  obtain ⟨mx, hmx⟩ := maxI_some hcne
  obtain ⟨hmx1, hmx2⟩ := maxI_spec hmx
  refine exS (fun E => ∃ am, E = B.set 13 (some (.ml ((enI am).map T.p))) ∧ am.length = goods ∧ (∀ x ∈ am, 0 ≤ x ∧ x ≤ 1000000) ∧ ∃ a ∈ am, 0 < a) ?_ ?_
  · by_cases hw : mx = 0
    · have hg0 : (goods : Int) ≠ 0 := by omega
      have hg0' : goods ≠ 0 := by omega
      have hk0 := Int.emod_nonneg p12 hg0
      have hk1 := Int.emod_lt_of_pos p12 (show 0 < (goods : Int) by omega)
      have hix : ixN ((enI cl).map T.p).length (p12 % goods) = some (p12 % (goods : Int)).toNat := ixN_of hk0 (by rw [List.length_map, enI_length, hcll]; exact hk1)
      refine ⟨_, by simp [-getElem?_pos, -List.length_map, bl, maxT_mints hmx, hw, b10, hp12, b4, hg0', fmod_pos (show 0 < (goods : Int) by omega), setN, hix] <;> rfl, cl.set (p12 % (goods : Int)).toNat 1, ?_, by simp [hcll], ?_, ?_⟩
      · simp [enI, List.map_set]
      · intro x hx
        rcases List.mem_or_eq_of_mem_set hx with z | z
        · exact hcl x z
        · subst z; decide
      · exact ⟨1, List.mem_set (by rw [hcll]; omega) 1, by decide⟩
    · refine ⟨_, by simp [-getElem?_pos, bl, maxT_mints hmx, hw] <;> rfl, cl, rfl, hcll, hcl, mx, hmx1, ?_⟩
      have := hcl mx hmx1
      omega
  rintro _ ⟨fm, rfl, hfl, hfr, hfp⟩
  -- frozen; the buying
  have hfz : ∀ m : SM, sFrz 13 m (B.set 13 (some (.ml ((enI fm).map T.p)))) = m (B.set 13 (some (.p (.list (enI fm))))) := by
    intro m
    have : (T.ml ((enI fm).map T.p)).snap = some (.list (enI fm)) := by simp [T.snap, snaps_p]
    simp [-getElem?_pos, bl, this]
  rw [hfz]
  have h2L : 2 ≤ LIM := by decide
  have hL0 : 0 ≤ LIM := Nat.zero_le _
  refine exE ((B.set 13 (some (.p (.list (enI fm))))).set 14 (some (.p (enB (prices, fm))))) (by
    simp [-getElem?_pos, bl, b11, h2L, enB]) ?_
  generalize hC : B.set 13 (some (.p (.list (enI fm)))) = C
  have cl' : C.length = 18 := by rw [← hC]; simp [bl]
  have c8 : C[8]? = some (some (.ml (bk.map fun b => T.p (enB b)))) := by rw [← hC]; simp [b8]
  have c10 : C[10]? = some (some (.p (.list (enI picks)))) := by rw [← hC]; simp [b10]
  have hgb : Good goods (prices, fm) := ⟨hprl, hfl, fun p hp' => by have := hpr p hp'; omega, hfr, hfp⟩
  have hbs : (T.ml (bk.map fun b => T.p (enB b))).snap = some (.list (bk.map enB)) := by
    have := snaps_p (bk.map enB)
    rw [List.map_map] at this
    simp only [T.snap]
    rw [show (bk.map fun b => T.p (enB b)) = bk.map (T.p ∘ enB) from rfl, this]
    rfl
  refine exS (fun E => ∃ b, E = C.set 14 (some (.p (enB b))) ∧ Good goods b) ?_ ?_
  · have hd9 : divOk 9 = true := by decide
    have hd63 : divOk 63 = true := by decide
    have hne : neT (.ml (bk.map fun b => T.p (enB b))) (.p (.list [])) = some (.p (.bool (!bk.isEmpty))) := by
      have h1 : SeqAt.shaped (.list (bk.map enB)) = true := shaped_bk bk
      have h2 : SeqAt.shaped (.list []) = true := by simp [SeqAt.shaped, PyData.canLay0, PyData.canLayAll0, PyData.depth, PyData.depthAll]
      simp only [M.neT, hbs, ev_snap, Option.bind_some, h1, h2, and_self, if_true]
      cases bk <;> simp [PyData.eqv, PyData.eqvAll]
    by_cases hw : bk = []
    · exact ⟨_, by simp [-getElem?_pos, cl', c8, hne, hw, hL0] <;> rfl, _, rfl, hgb⟩
    · by_cases hw2 : p13 / 9 % 7 = 0
      · have hb0 : (bk.length : Int) ≠ 0 := by have := List.length_pos_iff.mpr hw; omega
        have hb0' : bk.length ≠ 0 := by omega
        have hbp : (0 : Int) < (bk.length : Int) := by have := List.length_pos_iff.mpr hw; omega
        have hk0 := Int.emod_nonneg (p13 / 63) hb0
        have hk1 := Int.emod_lt_of_pos (p13 / 63) hbp
        obtain ⟨j, hj⟩ : ∃ j : Nat, (p13 / 63) % (bk.length : Int) = j := ⟨((p13 / 63) % (bk.length : Int)).toNat, by omega⟩
        have hjl : j < bk.length := by omega
        have hat : atI (bk.map fun b => T.p (enB b)) (j : Int) = some (T.p (enB bk[j])) := by
          rw [atI_lt (by omega) (by simp; omega)]; simp
        have hat1 : atI [PyData.tuple (enI bk[j].1), PyData.tuple (enI bk[j].2)] 1 = some (.tuple (enI bk[j].2)) := rfl
        have hat0 : atI [PyData.tuple (enI prices), PyData.tuple (enI fm)] 0 = some (.tuple (enI prices)) := rfl
        have hgj := hbk bk[j] (List.getElem_mem hjl)
        refine ⟨_, by
          simp [-getElem?_pos, cl', c8, hne, hw, hL0, c10, hp13, hd9, hd63, fdiv_pos (show (0 : Int) < 9 by decide), fdiv_pos (show (0 : Int) < 63 by decide), fmod_pos (show (0 : Int) < 7 by decide), hw2, hb0, fmod_pos hbp, hj, hat]
          simp [enB, hat0, hat1, h2L] <;> rfl, (prices, bk[j].2), rfl, ⟨hprl, hgj.la, hgb.pr, hgj.am, hgj.ps⟩⟩
      · exact ⟨_, by simp [-getElem?_pos, cl', c8, hne, hw, hL0, c10, hp13, hd9, fdiv_pos (show (0 : Int) < 9 by decide), fmod_pos (show (0 : Int) < 7 by decide), hw2] <;> rfl, _, rfl, hgb⟩
  rintro _ ⟨b, rfl, hgb'⟩
  have hbl2 : bk.length < LIM := by unfold LIM; omega
  refine ⟨_, by simp [-getElem?_pos, cl', c8, hbl2] <;> rfl, ?_⟩
  refine ⟨by simp [cl'], ?_, ?_, ?_, ?_, ?_, ?_, bk ++ [b], ?_, by simp [hbl], ?_⟩
  · rw [← hC]; simp [b0]
  · rw [← hC]; simp [b1]
  · rw [← hC]; simp [b3]
  · rw [← hC]; simp [b4]
  · rw [← hC]; simp [b6]
  · rw [← hC]; simp [b7]
  · simp [-getElem?_pos, cl']
  · intro x hx
    rcases List.mem_append.mp hx with z | z
    · exact hbk x z
    · have : x = b := by simpa using z
      subst this; exact hgb'
end B
/-! B3: the law's book. -/
namespace B
open PySem PySem.Spec PyProof.Rows L2 M

theorem snap_bk (bk : List Buy) : (T.ml (bk.map fun b => T.p (enB b))).snap = some (enBk bk) := by
  have := snaps_p (bk.map enB)
  rw [List.map_map] at this
  simp only [T.snap]
  rw [show (bk.map fun b => T.p (enB b)) = bk.map (T.p ∘ enB) from rfl, this]
  rfl

theorem callT_snap {fn : List T → Option T} {ts : List T} {t : T} {d : D} (hf : ts.all T.frozen = true) (h : fn ts = some t) (hs : t.snap = some d) : callT fn ts = some (.p d) := by
  unfold callT
  rw [if_pos hf, h]
  simp [hs]
theorem a_book (ns : List Int) (at' most : Int) (h0 : 0 ≤ at') (hm : 1 ≤ most) (hm2 : most ≤ 100) :
    ∃ (n : Nat) (bk : List Buy), callT Q.law_a_book [.sc ns, .p (.int at'), .p (.int most)] = some (.p (enBk bk)) ∧ ValidBook n bk ∧ (bk.length : Int) ≤ most := by
  obtain ⟨c, hc⟩ := c_cell_at ns at' h0
  obtain ⟨heads, hp, hhl, hhx⟩ := c_draws c 12 1000000 (by decide) (by decide) (by decide) (by decide)
  have hhl : heads.length = 12 := hhl
  obtain ⟨h0', m0, q0⟩ := atI_ex (xs := heads) (i := 0) (by decide) (by omega)
  obtain ⟨h1, m1, q1⟩ := atI_ex (xs := heads) (i := 1) (by decide) (by omega)
  obtain ⟨h2, m2, q2⟩ := atI_ex (xs := heads) (i := 2) (by decide) (by omega)
  obtain ⟨h3, m3, q3⟩ := atI_ex (xs := heads) (i := 3) (by decide) (by omega)
  obtain ⟨h4, m4, q4⟩ := atI_ex (xs := heads) (i := 4) (by decide) (by omega)
  obtain ⟨h5, m5, q5⟩ := atI_ex (xs := heads) (i := 5) (by decide) (by omega)
  have h3L : 3 ≤ LIM := by decide
  have h2L : 2 ≤ LIM := by decide
  have h4L : 4 ≤ LIM := by decide
  have hL0 : 0 ≤ LIM := Nat.zero_le _
  have f6 : ∀ x : Int, x.fmod 6 = x % 6 := fun x => fmod_pos (by decide)
  have f2 : ∀ x : Int, x.fmod 2 = x % 2 := fun x => fmod_pos (by decide)
  have f3 : ∀ x : Int, x.fmod 3 = x % 3 := fun x => fmod_pos (by decide)
  have f4 : ∀ x : Int, x.fmod 4 = x % 4 := fun x => fmod_pos (by decide)
  have f5 : ∀ x : Int, x.fmod 5 = x % 5 := fun x => fmod_pos (by decide)
  have g2 : ∀ x : Int, x.fdiv 2 = x / 2 := fun x => fdiv_pos (by decide)
  have fm : ∀ x : Int, x.fmod most = x % most := fun x => fmod_pos (by omega)
  have hmn : min most 4 ≠ 0 := by omega
  have fmn : ∀ x : Int, x.fmod (min most 4) = x % (min most 4) := fun x => fmod_pos (by omega)
  have hm0 : most ≠ 0 := by omega
  have d2 : divOk 2 = true := by decide
  obtain ⟨g, hg, hg1, hg2⟩ : ∃ g : Nat, atI [PyData.int (1 + h0' % 6), .int 2, .int (2 + h0' % 2)] (h1 % 3) = some (.int g) ∧ 1 ≤ g ∧ g ≤ 6 := by
    have : h1 % 3 = 0 ∨ h1 % 3 = 1 ∨ h1 % 3 = 2 := by omega
    rcases this with z | z | z <;> rw [z]
    · exact ⟨(1 + h0' % 6).toNat, by simp [atI, ixN]; omega, by omega, by omega⟩
    · exact ⟨2, by simp [atI, ixN], by omega, by omega⟩
    · exact ⟨(2 + h0' % 2).toNat, by simp [atI, ixN]; omega, by omega, by omega⟩
  obtain ⟨many, hmany, hy1, hy2⟩ : ∃ many : Nat, atI [PyData.int (1 + h2 % most), .int (1 + h2 % min most 4)] (h3 % 3 / 2) = some (.int many) ∧ 1 ≤ many ∧ (many : Int) ≤ most := by
    have e1 := Int.emod_nonneg h2 hm0
    have e2 := Int.emod_lt_of_pos h2 (show 0 < most by omega)
    have e3 := Int.emod_nonneg h2 hmn
    have e4 := Int.emod_lt_of_pos h2 (show 0 < min most 4 by omega)
    have : h3 % 3 / 2 = 0 ∨ h3 % 3 / 2 = 1 := by omega
    rcases this with z | z <;> rw [z]
    · exact ⟨(1 + h2 % most).toNat, by simp [atI, ixN]; omega, by omega, by omega⟩
    · exact ⟨(1 + h2 % min most 4).toNat, by simp [atI, ixN]; omega, by omega, by omega⟩
  obtain ⟨far, hfar, hf1, hf2⟩ : ∃ far : Int, atI [PyData.int 3, .int 9, .int 60, .int 1000000] (h4 % 4) = some (.int far) ∧ 3 ≤ far ∧ far ≤ 1000000 := by
    have : h4 % 4 = 0 ∨ h4 % 4 = 1 ∨ h4 % 4 = 2 ∨ h4 % 4 = 3 := by omega
    rcases this with z | z | z | z <;> rw [z]
    · exact ⟨3, rfl, by omega, by omega⟩
    · exact ⟨9, rfl, by omega, by omega⟩
    · exact ⟨60, rfl, by omega, by omega⟩
    · exact ⟨1000000, rfl, by omega, by omega⟩
  have hs : smallI (many : Int) := by unfold smallI; omega
  let env0 : En := [some (.sc ns), some (.p (.int at')), some (.p (.int most)), some (.p (.list (enI heads))), some (.p (.int g)), some (.p (.int many)), some (.p (.int far)), some (.p (.int (h5 % 5))), some (.ml []), none, none, none, none, none, none, none, none, none]
  obtain ⟨e, he, hinv⟩ := forRun_inv (g := gNm 9) (mb := Q.law_a_book_L1) (BkInv ns heads at' far (h5 % 5) g) (rangeD 0 many) env0 0
    ⟨rfl, rfl, rfl, rfl, rfl, rfl, rfl, [], rfl, rfl, fun _ z => nomatch z⟩ (by
      intro i d e hd hP
      have hi : i < many := by
        have := (List.getElem?_eq_some_iff.mp hd).1
        simpa [rangeD] using this
      have hd' : d = .int i := by
        simp [rangeD, hi] at hd
        exact hd.symm
      subst hd'
      obtain ⟨hl, e0, e1, e3, e4, e6, e7, bk, e8, hbl, hbk⟩ := hP
      rw [Nat.zero_add] at hbl ⊢
      have hinv : BkInv ns heads at' far (h5 % 5) g i (e.set 9 (some (.p (.int i)))) := ⟨by simp [hl], by simp [e0], by simp [e1], by simp [e3], by simp [e4], by simp [e6], by simp [e7], bk, by simp [e8], hbl, hbk⟩
      obtain ⟨e', he', hinv'⟩ := book_turn ns heads at' far (h5 % 5) g h0 hhl hhx hg1 hg2 hf1 hf2 (e.set 9 (some (.p (.int i)))) i (by omega) hinv (by simp [-getElem?_pos, hl])
      exact ⟨_, e', rfl, .inl he', hinv'⟩)
  obtain ⟨hl, _, _, _, _, _, _, bk, e8, hbl, hbk⟩ := hinv
  have hbl : bk.length = many := by simpa [rangeD] using hbl
  refine ⟨g, bk, ?_, ⟨hg1, hg2, by omega, hbk⟩, by omega⟩
  have key : Q.law_a_book [.sc ns, .p (.int at'), .p (.int most)] = some (.ml (bk.map fun b => T.p (enB b))) := by
    unfold Q.law_a_book runFn startE
    simp [hc, hp, q0, q1, q2, q3, q4, q5, f6, f2, f3, f4, f5, g2, fm, fmn, hm0, hmn, d2, h3L, h2L, h4L, hL0, hg, hmany, hfar, hs]
    have he2 : forRun (gNm 9) Q.law_a_book_L1 (rangeD 0 many) [some (.sc ns), some (.p (.int at')), some (.p (.int most)), some (.p (.list (enI heads))), some (.p (.int g)), some (.p (.int many)), some (.p (.int far)), some (.p (.int (h5 % 5))), some (.ml []), none, none, none, none, none, none, none, none, none] = some (.nx e) := he
    rw [he2]
    simp [-getElem?_pos, e8]
  exact callT_snap rfl key (snap_bk bk)
end B
/-! B4: is_buying, is_book. -/
namespace B
open PySem PySem.Spec PyProof.Rows L2 M

def okPrice (p : Int) : Bool := decide (1 ≤ p ∧ p ≤ 1000000)
def okAmount (a : Int) : Bool := decide (0 ≤ a ∧ a ≤ 1000000)
def isBuying (b : Buy) : Bool := decide (1 ≤ b.1.length ∧ b.1.length ≤ 6) && decide (b.1.length = b.2.length) && b.1.all okPrice && b.2.all okAmount && b.2.any (fun a => decide (0 < a))
def isBook (bk : List Buy) : Bool := decide (1 ≤ bk.length ∧ bk.length ≤ 12) && bk.all isBuying && bk.all fun b => decide (b.1.length = (bk.headD ([], [])).1.length)
def enBl (xs : List Bool) : List D := xs.map PyData.bool
theorem lc_bools {α : Type} {g : D → En → Option En} {tt : En → Option Bool} {me : EM} {env : En} (en : α → D) (f : α → Bool) (xs : List α) (h : ∀ x ∈ xs, ∃ e, g (en x) env = some e ∧ tt e = some true ∧ me e = some (.p (.bool (f x)))) :
    lcRun g tt me env (xs.map en) = some (enBl (xs.map f)) := by
  have := lcRun_map en (fun x => .bool (f x)) xs h
  unfold enBl
  rw [this, List.map_map]
  rfl
theorem allT_b (xs : List Bool) : allT [.p (.list (enBl xs))] = some (.p (.bool (xs.all id))) := by
  unfold enBl
  simp [allT, boolsOf_map]
theorem anyT_b (xs : List Bool) : anyT [.p (.list (enBl xs))] = some (.p (.bool (xs.any id))) := by
  unfold enBl
  simp [anyT, boolsOf_map]
theorem maxT_t {xs : List Int} {m : Int} (h : maxI xs = some m) : maxT [.p (.tuple (enI xs))] = some (.p (.int m)) := by
  unfold enI
  simp [maxT, intsOf_map, h]
theorem minT_t {xs : List Int} {m : Int} (h : minI xs = some m) : minT [.p (.tuple (enI xs))] = some (.p (.int m)) := by
  unfold enI
  simp [minT, intsOf_map, h]
theorem minI_some {xs : List Int} (h : xs ≠ []) : ∃ m, minI xs = some m := by
  cases xs with
  | nil => exact absurd rfl h
  | cons x r => exact ⟨_, rfl⟩
theorem max_pos {xs : List Int} {m : Int} (h : maxI xs = some m) : decide (0 < m) = xs.any (fun a => decide (0 < a)) := by
  obtain ⟨h1, h2⟩ := maxI_spec h
  rw [Bool.eq_iff_iff]
  simp only [decide_eq_true_eq, List.any_eq_true]
  constructor
  · intro z; exact ⟨m, h1, z⟩
  · rintro ⟨x, hx, z⟩
    have := h2 x hx
    omega

theorem is_buying (b : Buy) (hb : b.1.length ≤ 1000) (hb2 : b.2.length ≤ 1000) : callT Q.is_buying [.p (enB b)] = some (.p (.bool (isBuying b))) := by
  obtain ⟨ps, as⟩ := b
  simp only at hb hb2
  refine callT_p rfl ?_
  unfold Q.is_buying runFn startE
  have h1 : ∀ E : En, E.length = 5 → lcRun (gNm 3) bYes (mChain leT leT (mC (.int 1)) (mVar 3) (mC (.int 1000000))) (E.set 3 none) (enI ps) = some (enBl (ps.map okPrice)) := by
    intro E hE
    refine lc_bools PyData.int okPrice ps fun x hx => ⟨_, rfl, rfl, ?_⟩
    simp [-getElem?_pos, hE, okPrice]
    by_cases h1 : 1 ≤ x <;> simp [h1]
  have h2 : ∀ E : En, E.length = 5 → lcRun (gNm 4) bYes (mChain leT leT (mC (.int 0)) (mVar 4) (mC (.int 1000000))) (E.set 4 none) (enI as) = some (enBl (as.map okAmount)) := by
    intro E hE
    refine lc_bools PyData.int okAmount as fun x hx => ⟨_, rfl, rfl, ?_⟩
    simp [-getElem?_pos, hE, okAmount]
    by_cases h1 : 0 ≤ x <;> simp [h1]
  have l1 := h1 [some (.p (enB (ps, as))), some (.p (.tuple (enI ps))), some (.p (.tuple (enI as))), none, none] rfl
  have l2 := h2 [some (.p (enB (ps, as))), some (.p (.tuple (enI ps))), some (.p (.tuple (enI as))), none, none] rfl
  simp only [List.set_cons_succ, List.set_cons_zero, enB] at l1 l2
  have q1 : ps.length ≤ LIM := by unfold LIM; omega
  have q2 : as.length ≤ LIM := by unfold LIM; omega
  have q3 : ∀ f : Int → Bool, (enBl (ps.map f)).length ≤ LIM := fun f => by unfold enBl; simp; exact q1
  have q4 : ∀ f : Int → Bool, (enBl (as.map f)).length ≤ LIM := fun f => by unfold enBl; simp; exact q2
  unfold isBuying
  by_cases c1 : 1 ≤ ps.length ∧ ps.length ≤ 6
  · have i1 : (1 : Int) ≤ (ps.length : Int) := by omega
    have i2 : (ps.length : Int) ≤ 6 := by omega
    by_cases c2 : ps.length = as.length
    · have i3 : (ps.length : Int) = (as.length : Int) := by omega
      have hne : as ≠ [] := fun z => by subst z; simp only [List.length_nil] at c2; omega
      obtain ⟨m, hm⟩ := maxI_some hne
      have hp := max_pos hm
      have c3 : 1 ≤ as.length ∧ as.length ≤ 6 := by omega
      have j1 : (1 : Int) ≤ (as.length : Int) := by omega
      have j2 : (as.length : Int) ≤ 6 := by omega
      have e1 : (ps.map okPrice).all id = ps.all okPrice := by simp [List.all_map]
      have e2 : (as.map okAmount).all id = as.all okAmount := by simp [List.all_map]
      cases a1 : ps.all okPrice
      · rw [a1] at e1
        simp [enB, enI_length, j1, j2, c2, c3, l1, q3, q4, allT_b, e1, a1, hp]
      · rw [a1] at e1
        cases a2 : as.all okAmount
        · rw [a2] at e2
          simp [enB, enI_length, j1, j2, c2, c3, l1, l2, q3, q4, allT_b, e1, a1, e2, a2, hp]
        · rw [a2] at e2
          simp [enB, enI_length, j1, j2, c2, c3, l1, l2, q3, q4, allT_b, e1, a1, e2, a2, hp, maxT_t hm]
    · have i3 : ¬ (ps.length : Int) = (as.length : Int) := by omega
      simp [enB, enI_length, i1, i2, i3, c1, c2]
  · have : ¬ (1 ≤ (ps.length : Int)) ∨ ¬ ((ps.length : Int) ≤ 6) := by omega
    rcases this with z | z
    · simp [enB, enI_length, z, c1]
    · by_cases z1 : (1 : Int) ≤ (ps.length : Int)
      · simp [enB, enI_length, z, z1, c1]
      · simp [enB, enI_length, z1, c1]
end B
/-! B5: is_book and the law's own test. -/
namespace B
open PySem PySem.Spec PyProof.Rows L2 M

theorem forRun_search {α : Type} {g : D → En → Option En} {mb : SM} (en : α → D) (ok : α → Bool) (r : T) (P : En → Prop) : ∀ (xs : List α) (env : En), P env →
    (∀ x ∈ xs, ∀ e, P e → ∃ e1, g (en x) e = some e1 ∧ (ok x = true → ∃ e2, (mb e1 = some (.nx e2) ∨ mb e1 = some (.ct e2)) ∧ P e2) ∧ (ok x = false → mb e1 = some (.rt r))) →
    (xs.all ok = true → ∃ e, forRun g mb (xs.map en) env = some (.nx e) ∧ P e) ∧ (xs.all ok = false → forRun g mb (xs.map en) env = some (.rt r))
  | [], env, h, _ => ⟨fun _ => ⟨env, rfl, h⟩, fun z => by simp at z⟩
  | x :: t, env, h, hs => by
    obtain ⟨e1, h1, h2, h3⟩ := hs x List.mem_cons_self env h
    cases hk : ok x with
    | true =>
      obtain ⟨e2, h4, h5⟩ := h2 hk
      obtain ⟨i1, i2⟩ := forRun_search en ok r P t e2 h5 (fun y hy => hs y (List.mem_cons_of_mem _ hy))
      have hr : forRun g mb ((x :: t).map en) env = forRun g mb (t.map en) e2 := by
        simp only [List.map_cons, forRun, h1, Option.bind_some]
        rcases h4 with h4 | h4 <;> simp only [h4, Option.bind_some]
      rw [hr, List.all_cons, hk, Bool.true_and]
      exact ⟨i1, i2⟩
    | false =>
      rw [List.all_cons, hk, Bool.false_and]
      refine ⟨fun z => by simp at z, fun _ => ?_⟩
      simp only [List.map_cons, forRun, h1, Option.bind_some, h3 hk]

def Sane (bk : List Buy) : Prop := bk.length ≤ 1000 ∧ ∀ b ∈ bk, b.1.length ≤ 1000 ∧ b.2.length ≤ 1000

theorem is_book (bk : List Buy) (h : Sane bk) : callT Q.is_book [.p (enBk bk)] = some (.p (.bool (isBook bk))) := by
  refine callT_p rfl ?_
  unfold Q.is_book runFn startE
  have q1 : bk.length ≤ LIM := by have := h.1; unfold LIM; omega
  have q3 : ∀ f : Buy → Bool, (enBl (bk.map f)).length ≤ LIM := fun f => by unfold enBl; simp; exact q1
  have l1 : lcRun (gNm 1) bYes (mCall (callT Q.is_buying) (aCons (mVar 1) (aNil))) [some (.p (.list (bk.map enB))), none] (bk.map enB) = some (enBl (bk.map isBuying)) := by
    refine lc_bools enB isBuying bk fun x hx => ⟨_, rfl, rfl, ?_⟩
    simp [is_buying x (h.2 x hx).1 (h.2 x hx).2]
  unfold isBook enBk
  by_cases c1 : 1 ≤ bk.length ∧ bk.length ≤ 12
  · have i1 : (1 : Int) ≤ (bk.length : Int) := by omega
    have i2 : (bk.length : Int) ≤ 12 := by omega
    obtain ⟨b0, rest, hbk⟩ : ∃ b0 rest, bk = b0 :: rest := by
      cases bk with
      | nil => simp at c1
      | cons b r => exact ⟨b, r, rfl⟩
    have hat : atI (bk.map enB) 0 = some (enB b0) := by subst hbk; rw [atI_lt (by omega) (by simp only [List.length_map]; omega)]; rfl
    have hat0 : ∀ b : Buy, atI [PyData.tuple (enI b.1), PyData.tuple (enI b.2)] 0 = some (.tuple (enI b.1)) := fun _ => rfl
    have l2 : lcRun (gNm 1) bYes (mOp eqT (mCall lenT (aCons (mOp idxT (mVar 1) (mC (.int 0))) (aNil))) (mCall lenT (aCons (mOp idxT (mOp idxT (mVar 0) (mC (.int 0))) (mC (.int 0))) (aNil)))) [some (.p (.list (bk.map enB))), none] (bk.map enB) = some (enBl (bk.map fun b => decide (b.1.length = b0.1.length))) := by
      refine lc_bools enB _ bk fun x hx => ⟨_, rfl, rfl, ?_⟩
      simp [hat, enB, hat0, enI_length, Int.ofNat_inj]
    have e1 : (bk.map isBuying).all id = bk.all isBuying := by simp [List.all_map]
    have e2 : (bk.map fun b => decide (b.1.length = b0.1.length)).all id = bk.all fun b => decide (b.1.length = b0.1.length) := by simp [List.all_map]
    have e3 : (bk.headD ([], [])) = b0 := by subst hbk; rfl
    rw [e3]
    cases a1 : bk.all isBuying
    · rw [a1] at e1
      simp only [ev_sCons, ev_sIf, ev_bOr, ev_bNot, ev_bVal, ev_mChain, ev_mC, ev_mCall, ev_aCons, ev_mVar, ev_aNil]
      simp [i1, i2, c1, l1, q3, allT_b, e1]
    · rw [a1] at e1
      have e2' := e2
      simp [i1, i2, c1, l1, l2, q3, allT_b, e1, -List.all_map, -List.all_eq_true, e2]
  · have : ¬ (1 ≤ (bk.length : Int)) ∨ ¬ ((bk.length : Int) ≤ 12) := by omega
    rcases this with z | z
    · simp [z, c1]
    · by_cases z1 : (1 : Int) ≤ (bk.length : Int)
      · simp [z, z1, c1]
      · simp [z1, c1]

theorem buying_mm {ps as : List Int} {mx mn1 mn2 mx2 : Int} (h1 : maxI (ps ++ as) = some mx) (h2 : minI ps = some mn1) (h3 : minI as = some mn2) (h4 : maxI as = some mx2) :
    (ps.all okPrice && as.all okAmount && as.any (fun a => decide (0 < a))) = (decide (mx ≤ 1000000) && decide (1 ≤ mn1) && decide (0 ≤ mn2) && decide (1 ≤ mx2)) := by
  obtain ⟨a1, b1⟩ := maxI_spec h1
  obtain ⟨a2, b2⟩ := minI_spec h2
  obtain ⟨a3, b3⟩ := minI_spec h3
  obtain ⟨a4, b4⟩ := maxI_spec h4
  rw [Bool.eq_iff_iff]
  simp only [Bool.and_eq_true, List.all_eq_true, List.any_eq_true, decide_eq_true_eq, okPrice, okAmount]
  constructor
  · rintro ⟨⟨p, q⟩, x, hx, hx0⟩
    have := b4 x hx
    refine ⟨⟨⟨?_, (p _ a2).1⟩, (q _ a3).1⟩, by omega⟩
    rcases List.mem_append.mp a1 with z | z
    · exact (p _ z).2
    · exact (q _ z).2
  · rintro ⟨⟨⟨p, q⟩, r⟩, s⟩
    refine ⟨⟨fun x hx => ?_, fun x hx => ?_⟩, mx2, a4, by omega⟩
    · have := b1 x (List.mem_append_left _ hx)
      have := b2 x hx
      omega
    · have := b1 x (List.mem_append_right _ hx)
      have := b3 x hx
      omega

theorem enI_append (a b : List Int) : enI a ++ enI b = enI (a ++ b) := by simp [enI]
theorem law_due (bk : List Buy) (h : Sane bk) : callT Q.law_due [.p (enBk bk)] = some (.p (.bool (isBook bk))) := by
  refine callT_p rfl ?_
  unfold Q.law_due runFn startE
  unfold enBk isBook
  by_cases c1 : 1 ≤ bk.length ∧ bk.length ≤ 12
  · have i1 : ¬ ((bk.length : Int) < 1) := by omega
    have i2 : ¬ (12 < (bk.length : Int)) := by omega
    obtain ⟨b0, rest, hbk⟩ : ∃ b0 rest, bk = b0 :: rest := by
      cases bk with
      | nil => simp at c1
      | cons b r => exact ⟨b, r, rfl⟩
    have hat : atI (bk.map enB) 0 = some (enB b0) := by subst hbk; rw [atI_lt (by omega) (by simp only [List.length_map]; omega)]; rfl
    have hat0 : ∀ b : Buy, atI [PyData.tuple (enI b.1), PyData.tuple (enI b.2)] 0 = some (.tuple (enI b.1)) := fun _ => rfl
    have e3 : (bk.headD ([], [])) = b0 := by subst hbk; rfl
    rw [e3]
    let ok : Buy → Bool := fun b => isBuying b && decide (b.1.length = b0.1.length)
    obtain ⟨s1, s2⟩ := forRun_search (g := gTp (gCn (gNm 1) (gCn (gNm 2) (gNl)))) (mb := Q.law_due_L1) enB ok (.p (.bool false)) (fun e => ∃ x y, e = [some (.p (.list (bk.map enB))), x, y]) bk [some (.p (.list (bk.map enB))), none, none] ⟨_, _, rfl⟩ (by
      rintro ⟨ps, as⟩ hx _ ⟨x, y, rfl⟩
      have hs := h.2 _ hx
      simp only at hs
      refine ⟨[some (.p (.list (bk.map enB))), some (.p (.tuple (enI ps))), some (.p (.tuple (enI as)))], rfl, ?_⟩
      unfold Q.law_due_L1
      have q1 : ps.length + as.length ≤ LIM := by unfold LIM; omega
      by_cases d1 : 1 ≤ ps.length ∧ ps.length ≤ 6
      · have j1 : (1 : Int) ≤ (ps.length : Int) := by omega
        have j2 : (ps.length : Int) ≤ 6 := by omega
        by_cases d2 : ps.length = as.length
        · have k2 : (ps.length : Int) = (as.length : Int) := by omega
          have k1 : (1 : Int) ≤ (as.length : Int) := by omega
          have k3 : (as.length : Int) ≤ 6 := by omega
          by_cases d3 : ps.length = b0.1.length
          · have k4 : (as.length : Int) = (b0.1.length : Int) := by omega
            have k5 : (1 : Int) ≤ (b0.1.length : Int) := by omega
            have k6 : (b0.1.length : Int) ≤ 6 := by omega
            obtain ⟨mx, m1⟩ := maxI_some (xs := ps ++ as) (fun z => by have := congrArg List.length z; simp only [List.length_append, List.length_nil] at this; omega)
            obtain ⟨mn1, m2⟩ := minI_some (xs := ps) (fun z => by subst z; simp only [List.length_nil] at d1; omega)
            have hane : as ≠ [] := fun z => by subst z; simp only [List.length_nil] at d2; omega
            obtain ⟨mn2, m3⟩ := minI_some hane
            obtain ⟨mx2, m4⟩ := maxI_some hane
            have hok : ok (ps, as) = (decide (mx ≤ 1000000) && decide (1 ≤ mn1) && decide (0 ≤ mn2) && decide (1 ≤ mx2)) := by
              rw [← buying_mm m1 m2 m3 m4]
              simp only [ok, isBuying, d1, d2.symm, d3]
              simp [← d3, d1]
            rw [hok]
            have l2 : ps.length = as.length := d2
            have p1 : (ps.length : Int) = (b0.1.length : Int) := by omega
            have p2 : (as.length : Int) = (b0.1.length : Int) := by omega
            by_cases z1 : mx ≤ 1000000
            · have z1' : ¬ 1000000 < mx := by omega
              by_cases z2 : 1 ≤ mn1
              · have z2' : ¬ mn1 < 1 := by omega
                by_cases z3 : 0 ≤ mn2
                · have z3' : ¬ mn2 < 0 := by omega
                  by_cases z4 : 1 ≤ mx2
                  · have z4' : ¬ mx2 < 1 := by omega
                    simp [hat, enB, hat0, enI_length, p1, p2, k5, k6, enI_append, q1, maxT_t m1, minT_t m2, minT_t m3, maxT_t m4, z1, z2, z3, z4, z1', z2', z3', z4']
                  · have z4' : mx2 < 1 := by omega
                    simp [hat, enB, hat0, enI_length, p1, p2, k5, k6, enI_append, q1, maxT_t m1, minT_t m2, minT_t m3, maxT_t m4, z1, z2, z3, z4, z1', z2', z3', z4']
                · have z3' : mn2 < 0 := by omega
                  simp [hat, enB, hat0, enI_length, p1, p2, k5, k6, enI_append, q1, maxT_t m1, minT_t m2, minT_t m3, maxT_t m4, z1, z2, z3, z1', z2', z3']
              · have z2' : mn1 < 1 := by omega
                simp [hat, enB, hat0, enI_length, p1, p2, k5, k6, enI_append, q1, maxT_t m1, minT_t m2, minT_t m3, maxT_t m4, z1, z2, z1', z2']
            · have z1' : 1000000 < mx := by omega
              simp [hat, enB, hat0, enI_length, p1, p2, k5, k6, enI_append, q1, maxT_t m1, z1, z1']
          · have p1 : ¬ (ps.length : Int) = (b0.1.length : Int) := by omega
            have p2 : ¬ (as.length : Int) = (b0.1.length : Int) := by omega
            have hok : ok (ps, as) = false := by simp [ok, d3]
            rw [hok]
            refine ⟨fun z => (nomatch z), fun _ => ?_⟩
            simp [hat, enB, hat0, enI_length, p1, p2, k1, k3, k2]
        · have k2 : ¬ (ps.length : Int) = (as.length : Int) := by omega
          have hok : ok (ps, as) = false := by simp [ok, isBuying, d2]
          rw [hok]
          refine ⟨fun z => (nomatch z), fun _ => ?_⟩
          simp [enI_length, j1, j2, k2]
      · have hok : ok (ps, as) = false := by simp only [ok, isBuying, d1]; simp
        rw [hok]
        refine ⟨fun z => (nomatch z), fun _ => ?_⟩
        by_cases z1 : (1 : Int) ≤ (ps.length : Int)
        · have z2 : ¬ (ps.length : Int) ≤ 6 := by omega
          simp [enI_length, z1, z2]
        · simp [enI_length, z1])
    have hall : bk.all ok = (bk.all isBuying && bk.all fun b => decide (b.1.length = b0.1.length)) := by
      rw [Bool.eq_iff_iff]
      simp only [ok, Bool.and_eq_true, List.all_eq_true]
      exact ⟨fun z => ⟨fun x hx => (z x hx).1, fun x hx => (z x hx).2⟩, fun z x hx => ⟨z.1 x hx, z.2 x hx⟩⟩
    have hdec : decide (1 ≤ bk.length ∧ bk.length ≤ 12) = true := by simp [c1]
    rw [hdec, Bool.true_and, ← hall]
    cases hv : bk.all ok with
    | true =>
      obtain ⟨e, he, _⟩ := s1 hv
      simp [i1, i2, he]
    | false =>
      have he := s2 hv
      simp [i1, i2, he]
  · have : ((bk.length : Int) < 1) ∨ (12 < (bk.length : Int)) := by omega
    have hdec : decide (1 ≤ bk.length ∧ bk.length ≤ 12) = false := by simp only [c1, decide_false]
    rw [hdec]
    rcases this with z | z
    · simp [z]
    · by_cases z1 : (bk.length : Int) < 1
      · simp [z1]
      · simp [z1, z]
end B
/-! B6: the law's spoilt book (k01). -/
namespace B
open PySem PySem.Spec PyProof.Rows L2 M

theorem oxS {a b : SM} {env : En} {Post : Out → Prop} (Q : En → Prop) (h1 : ∃ e, a env = some (.nx e) ∧ Q e) (h2 : ∀ e, Q e → ∃ o, b e = some o ∧ Post o) : ∃ o, sCons a b env = some o ∧ Post o := by
  obtain ⟨e, h3, h4⟩ := h1
  obtain ⟨e', h5, h6⟩ := h2 e h4
  exact ⟨e', by rw [stepS h3]; exact h5, h6⟩
theorem oxE {a b : SM} {env : En} {Post : Out → Prop} (e : En) (h1 : a env = some (.nx e)) (h2 : ∃ o, b e = some o ∧ Post o) : ∃ o, sCons a b env = some o ∧ Post o := by
  obtain ⟨e', h5, h6⟩ := h2
  exact ⟨e', by rw [stepS h1]; exact h5, h6⟩
theorem run_of {n : Nat} {body : SM} {ts : List T} {t : T} (h : ∃ o, body (startE n ts) = some o ∧ o = .rt t) : runFn n body ts = some t := by
  obtain ⟨o, h1, rfl⟩ := h
  unfold runFn
  rw [h1]
  rfl
theorem run_ex {n : Nat} {body : SM} {ts : List T} {P : T → Prop} (h : ∃ o, body (startE n ts) = some o ∧ ∃ t, o = .rt t ∧ P t) : ∃ t, runFn n body ts = some t ∧ P t := by
  obtain ⟨o, h1, t, rfl, h2⟩ := h
  refine ⟨t, ?_, h2⟩
  unfold runFn
  rw [h1]
  rfl
@[simp] theorem ev_atix {k : Nat} {π : List Stp} {ts : List T} : T.at (.ix k :: π) (.ml ts) = (ts[k]?).bind fun u => T.at π u := rfl
@[simp] theorem ev_putix {k : Nat} {π : List Stp} {ts : List T} {u : T} : T.put (.ix k :: π) (.ml ts) u = (ts[k]?).bind fun c => (T.put π c u).map fun c' => .ml (ts.set k c') := rfl
@[simp] theorem ev_mull {ds : List D} {j : Int} : mulT (.p (.list ds)) (.p (.int j)) = if -(2 ^ 62) ≤ j ∧ j < 2 ^ 62 ∧ ds.length * j.toNat ≤ LIM then some (.p (.list (List.replicate j.toNat ds).flatten)) else none := rfl
theorem mp_set (ps : List Int) (k : Nat) (v : Int) : ((enI ps).map T.p).set k (T.p (.int v)) = (enI (ps.set k v)).map T.p := by simp [enI, List.map_set]
theorem mp_app (ps : List Int) (v : Int) : (enI ps).map T.p ++ [T.p (.int v)] = (enI (ps ++ [v])).map T.p := by simp [enI]
theorem mp_era (ps : List Int) (k : Nat) : ((enI ps).map T.p).eraseIdx k = (enI (ps.eraseIdx k)).map T.p := by
  unfold enI
  induction ps generalizing k with
  | nil => simp
  | cons x r ih => cases k with
    | zero => simp
    | succ k => simp only [List.map_cons, List.eraseIdx_cons_succ, ih k]
def mI (xs : List Int) : T := .ml ((enI xs).map T.p)
theorem snap_mI (xs : List Int) : (mI xs).snap = some (.list (enI xs)) := by unfold mI; simp [T.snap, snaps_p]
theorem ix20 {n : Nat} {x : Int} (hn : n = 2) (h : x = 0) : ixN n x = some 0 := by subst hn h; rfl
theorem ix21 {n : Nat} {x : Int} (hn : n = 2) (h : x = 1) : ixN n x = some 1 := by subst hn h; rfl
theorem len_mI (xs : List Int) : lenT [mI xs] = some (.p (.int xs.length)) := by unfold mI; rw [ev_lenm]; simp [enI_length]
theorem ne_nil_bk (bk : List Buy) : M.neT (.p (enBk bk)) (.p (.list [])) = some (.p (.bool (!bk.isEmpty))) := by
  have h1 : SeqAt.shaped (.list (bk.map enB)) = true := shaped_bk bk
  have h2 : SeqAt.shaped (.list []) = true := by simp [SeqAt.shaped, PyData.canLay0, PyData.canLayAll0, PyData.depth, PyData.depthAll]
  simp only [M.neT, ev_snap, Option.bind_some, enBk, h1, h2, and_self, if_true]
  cases bk <;> simp [PyData.eqv, PyData.eqvAll]
theorem cutL_enB (bk : List Buy) (lo hi : Option Int) : cutL (bk.map enB) lo hi = (cutL bk lo hi).map enB := by
  unfold cutL
  simp [List.map_take, List.map_drop]
theorem flat_map {α β : Type} (f : α → β) (n : Nat) (xs : List α) : (List.replicate n (xs.map f)).flatten = ((List.replicate n xs).flatten).map f := by
  simp [List.map_flatten]

theorem spoilt_sides (bk : T) (picks : List Int) (at' : Int) (ps as : List Int) (side k form p4 : Int) (hp4 : atI (enI picks) 4 = some (.int p4)) (hs : side = 0 ∨ side = 1) (hk0 : 0 ≤ k) (hk : k < (if side = 0 then ps.length else as.length)) (hf0 : 0 ≤ form) (hf : form < 11) (hps : ps.length ≤ 6) (has : as.length ≤ 6) (rest : SM) :
    ∃ u0 u1 ps' as', sCons (sIf (bOp ltT (mVar 6) (mC (.int 4))) (sSetIx (pIx (pVar 3) (mVar 4)) (mVar 5) (mOp idxT (mLst (aCons (mC (.int 0)) (aCons (mOp addT (mOp powT (mC (.int 10)) (mC (.int 6))) (mC (.int 1))) (aCons (mNeg (mC (.int 1))) (aCons (mOp powT (mC (.int 10)) (mC (.int 6))) (aNil)))))) (mVar 6))) (sNil)) (sCons (sIf (bOp eqT (mVar 6) (mC (.int 4))) (sAppend (pIx (pVar 3) (mVar 4)) (mOp addT (mC (.int 1)) (mOp modT (mOp idxT (mVar 1) (mC (.int 4))) (mC (.int 3))))) (sNil)) (sCons (sIf (bOp eqT (mVar 6) (mC (.int 5))) (sPopAt (pIx (pVar 3) (mVar 4)) (mVar 5)) (sNil)) (sCons (sIf (bOp eqT (mVar 6) (mC (.int 6))) (sSetF 3 (mLstF (aCons (mRepF (mLst (aCons (mC (.int 1)) (aNil))) (mOp idxT (mLst (aCons (mC (.int 0)) (aCons (mC (.int 7)) (aCons (mC (.int 6)) (aNil))))) (mOp modT (mOp idxT (mVar 1) (mC (.int 4))) (mC (.int 3))))) (aCons (mRepF (mLst (aCons (mC (.int 1)) (aNil))) (mOp idxT (mLst (aCons (mC (.int 0)) (aCons (mC (.int 7)) (aCons (mC (.int 6)) (aNil))))) (mOp modT (mOp idxT (mVar 1) (mC (.int 4))) (mC (.int 3))))) (aNil))))) (sNil)) (sCons (sIf (bOp eqT (mVar 6) (mC (.int 7))) (sSetIx (pVar 3) (mC (.int 1)) (mOp mulT (mLst (aCons (mC (.int 0)) (aNil))) (mCall lenT (aCons (mOp idxT (mVar 3) (mC (.int 1))) (aNil))))) (sNil)) rest))))
      [some bk, some (.p (.list (enI picks))), some (.p (.int at')), some (.ml [mI ps, mI as]), some (.p (.int side)), some (.p (.int k)), some (.p (.int form)), none] =
      rest [some bk, some (.p (.list (enI picks))), some (.p (.int at')), some (.ml [u0, u1]), some (.p (.int side)), some (.p (.int k)), some (.p (.int form)), none] ∧ u0.snap = some (.list (enI ps')) ∧ u1.snap = some (.list (enI as')) ∧ ps'.length ≤ 7 ∧ as'.length ≤ 7 := by
  have L1 : 1 ≤ LIM := by decide
  have L2' : 2 ≤ LIM := by decide
  have L3 : 3 ≤ LIM := by decide
  have L4 : 4 ≤ LIM := by decide
  have L6 : 6 ≤ LIM := by decide
  have L7 : 7 ≤ LIM := by decide
  have L0 : 0 ≤ LIM := Nat.zero_le _
  have ips : ps.length < LIM := by unfold LIM; omega
  have ias : as.length < LIM := by unfold LIM; omega
  have f3 : ∀ x : Int, x.fmod 3 = x % 3 := fun x => fmod_pos (by decide)
  have kk : k < 2 ^ 62 := by split at hk <;> omega
  have kk2 : -(2 ^ 62) ≤ k := by omega
  rcases (show form < 4 ∨ form = 4 ∨ form = 5 ∨ form = 6 ∨ form = 7 ∨ 8 ≤ form by omega) with c | c | c | c | c | c
  · obtain ⟨v, hv⟩ : ∃ v, atI [PyData.int 0, .int 1000001, .int (-1), .int 1000000] form = some (.int v) := by
      rcases (show form = 0 ∨ form = 1 ∨ form = 2 ∨ form = 3 by omega) with z | z | z | z <;> subst z
      · exact ⟨0, rfl⟩
      · exact ⟨1000001, rfl⟩
      · exact ⟨-1, rfl⟩
      · exact ⟨1000000, rfl⟩
    have n4 : ¬ form = 4 := by omega
    have n5 : ¬ form = 5 := by omega
    have n6 : ¬ form = 6 := by omega
    have n7 : ¬ form = 7 := by omega
    rcases hs with z | z
    · subst z
      have hk : k < ps.length := by simpa using hk
      have hix : ixN ((enI ps).map T.p).length k = some k.toNat := ixN_of hk0 (by simp [enI_length]; exact hk)
      refine ⟨mI (ps.set k.toNat v), mI as, ps.set k.toNat v, as, ?_, snap_mI _, snap_mI _, by simp; omega, by omega⟩
      simp only [mI]
      simp [-List.length_map, c, n4, n5, n6, n7, L4, hv, ix20, setN, hix, mp_set]
    · subst z
      have hk : k < as.length := by simpa using hk
      have hix : ixN ((enI as).map T.p).length k = some k.toNat := ixN_of hk0 (by simp [enI_length]; exact hk)
      refine ⟨mI ps, mI (as.set k.toNat v), ps, as.set k.toNat v, ?_, snap_mI _, snap_mI _, by omega, by simp; omega⟩
      simp only [mI]
      simp [-List.length_map, c, n4, n5, n6, n7, L4, hv, ix21, setN, hix, mp_set]
  · subst c
    rcases hs with z | z
    · subst z
      refine ⟨mI (ps ++ [1 + p4 % 3]), mI as, ps ++ [1 + p4 % 3], as, ?_, snap_mI _, snap_mI _, by simp; omega, by omega⟩
      simp only [mI]
      simp [hp4, f3, ix20, ips, enI_length, mp_app]
    · subst z
      refine ⟨mI ps, mI (as ++ [1 + p4 % 3]), ps, as ++ [1 + p4 % 3], ?_, snap_mI _, snap_mI _, by omega, by simp; omega⟩
      simp only [mI]
      simp [hp4, f3, ix21, ias, enI_length, mp_app]
  · subst c
    rcases hs with z | z
    · subst z
      have hk : k < ps.length := by simpa using hk
      have hix : ixN ((enI ps).map T.p).length k = some k.toNat := ixN_of hk0 (by simp [enI_length]; exact hk)
      refine ⟨mI (ps.eraseIdx k.toNat), mI as, ps.eraseIdx k.toNat, as, ?_, snap_mI _, snap_mI _, Nat.le_trans (List.length_eraseIdx_le _ _) (by omega), by omega⟩
      simp only [mI]
      simp [-List.length_map, ix20, hix, show -4611686018427387904 ≤ k by omega, show k < 4611686018427387904 by omega, mp_era]
    · subst z
      have hk : k < as.length := by simpa using hk
      have hix : ixN ((enI as).map T.p).length k = some k.toNat := ixN_of hk0 (by simp [enI_length]; exact hk)
      refine ⟨mI ps, mI (as.eraseIdx k.toNat), ps, as.eraseIdx k.toNat, ?_, snap_mI _, snap_mI _, by omega, Nat.le_trans (List.length_eraseIdx_le _ _) (by omega)⟩
      simp only [mI]
      simp [-List.length_map, ix21, hix, show -4611686018427387904 ≤ k by omega, show k < 4611686018427387904 by omega, mp_era]
  · subst c
    obtain ⟨v, hv, hv0, hv7⟩ : ∃ v : Int, atI [PyData.int 0, .int 7, .int 6] (p4 % 3) = some (.int v) ∧ 0 ≤ v ∧ v ≤ 7 := by
      rcases (show p4 % 3 = 0 ∨ p4 % 3 = 1 ∨ p4 % 3 = 2 by omega) with z | z | z <;> rw [z]
      · exact ⟨0, rfl, by decide, by decide⟩
      · exact ⟨7, rfl, by decide, by decide⟩
      · exact ⟨6, rfl, by decide, by decide⟩
    have hvb : -(2 ^ 62) ≤ v ∧ v < 2 ^ 62 ∧ v.toNat ≤ LIM := by unfold LIM; omega
    have hvb1 : v.toNat ≤ LIM := hvb.2.2
    have hr : (List.replicate v.toNat [T.p (PyData.int 1)]).flatten = (enI (List.replicate v.toNat 1)).map T.p := by
      unfold enI
      generalize v.toNat = n
      induction n with
      | zero => rfl
      | succ m ih => simp only [List.replicate_succ, List.flatten_cons, ih, List.map_cons]; rfl
    refine ⟨mI (List.replicate v.toNat 1), mI (List.replicate v.toNat 1), _, _, ?_, snap_mI _, snap_mI _, by simp; omega, by simp; omega⟩
    simp only [mI]
    simp [-List.flatten_replicate_singleton, hp4, f3, hv, L1, L2', L3, hvb1, hr, show v ≤ (LIM : Int) by omega, show -4611686018427387904 ≤ v by omega, show v < 4611686018427387904 by omega]
  · subst c
    obtain ⟨n, hn, hn0, hn6⟩ : ∃ n : Int, lenT [mI as] = some (.p (.int n)) ∧ 0 ≤ n ∧ n ≤ 6 := ⟨_, len_mI as, by omega, by omega⟩
    have hr : (List.replicate n.toNat [PyData.int 0]).flatten = enI (List.replicate n.toNat 0) := by
      unfold enI
      generalize n.toNat = m
      induction m with
      | zero => rfl
      | succ m ih => simp only [List.replicate_succ, List.flatten_cons, ih, List.map_cons]; rfl
    have h1 : atI [mI ps, mI as] 1 = some (mI as) := rfl
    refine ⟨mI ps, .p (.list (enI (List.replicate n.toNat 0))), ps, List.replicate n.toNat 0, ?_, snap_mI _, by simp, by omega, by simp; omega⟩
    have n1 : -4611686018427387904 ≤ n := by omega
    have n2 : n < 4611686018427387904 := by omega
    have n3 : n ≤ (LIM : Int) := by omega
    rw [stepS (e := [some bk, some (.p (.list (enI picks))), some (.p (.int at')), some (.ml [mI ps, mI as]), some (.p (.int side)), some (.p (.int k)), some (.p (.int 7)), none]) (by simp)]
    rw [stepS (e := [some bk, some (.p (.list (enI picks))), some (.p (.int at')), some (.ml [mI ps, mI as]), some (.p (.int side)), some (.p (.int k)), some (.p (.int 7)), none]) (by simp)]
    rw [stepS (e := [some bk, some (.p (.list (enI picks))), some (.p (.int at')), some (.ml [mI ps, mI as]), some (.p (.int side)), some (.p (.int k)), some (.p (.int 7)), none]) (by simp)]
    rw [stepS (e := [some bk, some (.p (.list (enI picks))), some (.p (.int at')), some (.ml [mI ps, mI as]), some (.p (.int side)), some (.p (.int k)), some (.p (.int 7)), none]) (by simp)]
    rw [stepS (e := [some bk, some (.p (.list (enI picks))), some (.p (.int at')), some (.ml [mI ps, .p (.list (enI (List.replicate n.toNat 0)))]), some (.p (.int side)), some (.p (.int k)), some (.p (.int 7)), none]) (by
      simp [-List.flatten_replicate_singleton, h1, hn, hr, ix21, setN, L1, n1, n2, n3])]
  · have n4 : ¬ form < 4 := by omega
    have n4 : ¬ form = 4 := by omega
    have n5 : ¬ form = 5 := by omega
    have n6 : ¬ form = 6 := by omega
    have n7 : ¬ form = 7 := by omega
    refine ⟨mI ps, mI as, ps, as, ?_, snap_mI _, snap_mI _, by omega, by omega⟩
    simp [*]
theorem at_bk {bk : List Buy} {i : Int} (h0 : 0 ≤ i) (h1 : i < bk.length) : ∃ b ∈ bk, atI (bk.map enB) i = some (enB b) ∧ bk[i.toNat]? = some b := by
  have : i.toNat < bk.length := by omega
  refine ⟨bk[i.toNat], List.getElem_mem this, ?_, by simp [this]⟩
  rw [atI_lt h0 (by simp only [List.length_map]; exact h1)]
  simp
theorem at_bkT {bk : List Buy} {i : Int} (h0 : 0 ≤ i) (h1 : i < bk.length) : ∃ b ∈ bk, atI (bk.map fun b => T.p (enB b)) i = some (.p (enB b)) ∧ bk[i.toNat]? = some b := by
  have : i.toNat < bk.length := by omega
  refine ⟨bk[i.toNat], List.getElem_mem this, ?_, by simp [this]⟩
  rw [atI_lt h0 (by simp only [List.length_map]; exact h1)]
  simp
theorem snap2 {u0 u1 : T} {a b : D} (h0 : u0.snap = some a) (h1 : u1.snap = some b) : (T.ml [u0, u1]).snap = some (.list [a, b]) := by
  simp [T.snap, snaps, h0, h1]
theorem refl_bk (bk : List Buy) : M.neT (.p (enBk bk)) (.p (enBk bk)) = some (.p (.bool false)) := by
  have h1 : SeqAt.shaped (.list (bk.map enB)) = true := shaped_bk bk
  simp only [M.neT, ev_snap, Option.bind_some, enBk, h1, and_self, if_true]
  have h2 := SeqAt.canLay_of_shaped h1
  rw [SeqAt.eqv_refl _ h2]
  rfl
theorem isi_bool (b : Bool) : isiT "bool" (.p (.bool b)) = some (.p (.bool true)) := by
  simp [isiT, tyN, isi]
end B
/-! B8: logs: what is one. -/
namespace B
open PySem PySem.Spec PyProof.Rows L2 M

def unlike (xs : List Int) : Bool := decide (0 < xs.length) && decide (xs.Nodup) && xs.all fun x => decide (0 ≤ x ∧ x < 100)
def isChoosing (b : Buy) : Bool := unlike b.1 && unlike b.2 && decide (b.1.length ≤ 12) && b.2.all fun x => decide (x ∈ b.1)
def isLog (lg : List Buy) : Bool := decide (1 ≤ lg.length ∧ lg.length ≤ 16) && lg.all isChoosing

theorem lenSet_t (xs : List Int) (h : xs.length ≤ 1000) : lenSetT [.p (.tuple (enI xs))] = some (.p (.int (ddup xs).length)) := by
  unfold lenSetT enI
  simp only [ev_anyt, Option.bind_some, intsOf_map]
  rw [if_pos (by omega)]
theorem len_ddup_int (xs : List Int) : decide (((ddup xs).length : Int) = (xs.length : Int)) = decide xs.Nodup := by
  rw [decide_eq_decide, Int.ofNat_inj]
  exact ddup_eq
theorem flat_enI (xs : List Int) : (enI xs).all flatD = true := by
  unfold enI
  simp [flatD]
theorem flat_int (x : Int) : flatD (.int x) = true := rfl
theorem any_eqv (xs : List Int) (x : Int) : ((enI xs).any fun z => PyData.eqv z (.int x)) = decide (x ∈ xs) := by
  unfold enI
  rw [Bool.eq_iff_iff]
  simp [PyData.eqv]
theorem in_t (xs : List Int) (x : Int) : inT (.p (.int x)) (.p (.tuple (enI xs))) = some (.p (.bool (decide (x ∈ xs)))) := by
  simp [inT, -List.all_eq_true, flat_enI, any_eqv, flat_int]
theorem notIn_t (xs : List Int) (x : Int) : notInT (.p (.int x)) (.p (.tuple (enI xs))) = some (.p (.bool (!decide (x ∈ xs)))) := by
  simp [notInT, -List.all_eq_true, flat_enI, any_eqv, flat_int]
theorem notIn_l (xs : List Int) (x : Int) : notInT (.p (.int x)) (.p (.list (enI xs))) = some (.p (.bool (!decide (x ∈ xs)))) := by
  simp [notInT, -List.all_eq_true, flat_enI, any_eqv, flat_int]
theorem any_mI (xs : List Int) : (mI xs).any? = some (enI xs) := by
  simp only [mI, T.any?, T.seq?, pures_map]
theorem notIn_m (xs : List Int) (x : Int) : notInT (.p (.int x)) (mI xs) = some (.p (.bool (!decide (x ∈ xs)))) := by
  simp [notInT, any_mI, -List.all_eq_true, flat_enI, any_eqv, flat_int]

theorem are_unlike (xs : List Int) (h : xs.length ≤ 1000) : callT Q.are_unlike [.p (.tuple (enI xs))] = some (.p (.bool (unlike xs))) := by
  refine callT_p rfl ?_
  unfold Q.are_unlike runFn startE
  have l1 : lcRun (gNm 1) bYes (mChain leT ltT (mC (.int 0)) (mVar 1) (mC (.int 100))) [some (.p (.tuple (enI xs))), none] (enI xs) = some (enBl (xs.map fun x => decide (0 ≤ x ∧ x < 100))) := by
    refine lc_bools PyData.int _ xs fun x hx => ⟨_, rfl, rfl, ?_⟩
    by_cases h1 : 0 ≤ x <;> simp [h1]
  have q1 : xs.length ≤ LIM := by unfold LIM; omega
  have q3 : ∀ f : Int → Bool, (enBl (xs.map f)).length ≤ LIM := fun f => by unfold enBl; simp; exact q1
  unfold unlike
  have hp : decide (0 < (xs.length : Int)) = decide (0 < xs.length) := by rw [decide_eq_decide]; omega
  have hd := len_ddup_int xs
  have e1 : (xs.map fun x => decide (0 ≤ x ∧ x < 100)).all id = xs.all fun x => decide (0 ≤ x ∧ x < 100) := by rw [List.all_map]; rfl
  have ha : ∀ f : Int → Bool, allT [.p (.list (enBl (xs.map f)))] = some (.p (.bool (xs.all f))) := fun f => by rw [allT_b, List.all_map]; rfl
  simp only [ev_sRet, ev_mAnd, ev_mOp, ev_mCall, ev_aCons, ev_mVar, ev_aNil, ev_mC, ev_mLc, ev_iSeqB]
  simp only [List.map_cons, List.map_nil, List.getElem?_cons_zero, List.length_cons, List.length_nil, List.replicate, List.cons_append, List.nil_append, Option.join_some, Option.bind_some, Option.map_some, ev_lent, enI_length, ev_gt, hp, ev_bool, lenSet_t xs h, ev_eqi, hd, ev_anyt, ev_wipe0, ev_wipe1, List.set_cons_succ, List.set_cons_zero, l1, q3, if_true, ha]
  cases decide (0 < xs.length) <;> cases decide xs.Nodup <;> simp

theorem is_choosing (b : Buy) (h1 : b.1.length ≤ 1000) (h2 : b.2.length ≤ 1000) : callT Q.is_choosing [.p (.tuple (enI b.1)), .p (.tuple (enI b.2))] = some (.p (.bool (isChoosing b))) := by
  refine callT_p rfl ?_
  obtain ⟨os, ts⟩ := b
  simp only at h1 h2 ⊢
  unfold Q.is_choosing runFn startE
  have l1 : lcRun (gNm 2) bYes (mOp inT (mVar 2) (mVar 0)) [some (.p (.tuple (enI os))), some (.p (.tuple (enI ts))), none] (enI ts) = some (enBl (ts.map fun x => decide (x ∈ os))) := by
    refine lc_bools PyData.int _ ts fun x hx => ⟨_, rfl, rfl, ?_⟩
    simp [in_t]
  have q1 : ts.length ≤ LIM := by unfold LIM; omega
  have q3 : ∀ f : Int → Bool, (enBl (ts.map f)).length ≤ LIM := fun f => by unfold enBl; simp; exact q1
  have ha : ∀ f : Int → Bool, allT [.p (.list (enBl (ts.map f)))] = some (.p (.bool (ts.all f))) := fun f => by rw [allT_b, List.all_map]; rfl
  unfold isChoosing
  simp only
  cases u1 : unlike os
  · simp [are_unlike os h1, u1]
  · cases u2 : unlike ts
    · simp [are_unlike os h1, are_unlike ts h2, u1, u2]
    · by_cases c : os.length ≤ 12
      · have c' : ¬ (12 : Int) < (os.length : Int) := by omega
        have ce : decide (os.length ≤ 12) = true := by simp [c]
        rw [ce]
        simp [-List.all_eq_true, are_unlike os h1, are_unlike ts h2, u1, u2, c', enI_length, l1, q3, ha]
      · have c' : (12 : Int) < (os.length : Int) := by omega
        simp [are_unlike os h1, are_unlike ts h2, u1, u2, c', c, enI_length]

theorem is_log (lg : List Buy) (h : Sane lg) : callT Q.is_log [.p (enBk lg)] = some (.p (.bool (isLog lg))) := by
  refine callT_p rfl ?_
  unfold Q.is_log runFn startE enBk
  have q1 : lg.length ≤ LIM := by have := h.1; unfold LIM; omega
  have q3 : ∀ f : Buy → Bool, (enBl (lg.map f)).length ≤ LIM := fun f => by unfold enBl; simp; exact q1
  have ha : ∀ f : Buy → Bool, allT [.p (.list (enBl (lg.map f)))] = some (.p (.bool (lg.all f))) := fun f => by rw [allT_b, List.all_map]; rfl
  have l1 : lcRun (gTp (gCn (gNm 1) (gCn (gNm 2) (gNl)))) bYes (mCall (callT Q.is_choosing) (aCons (mVar 1) (aCons (mVar 2) (aNil)))) [some (.p (.list (lg.map enB))), none, none] (lg.map enB) = some (enBl (lg.map isChoosing)) := by
    refine lc_bools enB isChoosing lg fun x hx => ⟨_, rfl, rfl, ?_⟩
    simp [is_choosing x (h.2 x hx).1 (h.2 x hx).2]
  unfold isLog
  by_cases c1 : 1 ≤ lg.length
  · have i1 : (1 : Int) ≤ (lg.length : Int) := by omega
    by_cases c2 : lg.length ≤ 16
    · have i2 : (lg.length : Int) ≤ 16 := by omega
      have hdec : decide (1 ≤ lg.length ∧ lg.length ≤ 16) = true := by simp [c1, c2]
      rw [hdec]
      simp [-List.all_eq_true, i1, i2, l1, q3, ha]
    · have i2 : ¬ (lg.length : Int) ≤ 16 := by omega
      have hdec : decide (1 ≤ lg.length ∧ lg.length ≤ 16) = false := by simp [c1, c2]
      rw [hdec]
      simp [i1, i2]
  · have i1 : ¬ (1 : Int) ≤ (lg.length : Int) := by omega
    have hdec : decide (1 ≤ lg.length ∧ lg.length ≤ 16) = false := by simp [c1]
    rw [hdec]
    simp [i1]

theorem nodup_sub_le : ∀ {l m : List Int}, l.Nodup → (∀ x ∈ l, x ∈ m) → l.length ≤ m.length
  | [], _, _, _ => Nat.zero_le _
  | x :: r, m, hn, hs => by
    obtain ⟨h1, h2⟩ := List.nodup_cons.mp hn
    have hx := hs x List.mem_cons_self
    have := nodup_sub_le (l := r) (m := m.erase x) h2 (fun y hy => by
      refine (List.mem_erase_of_ne ?_).mpr (hs y (List.mem_cons_of_mem _ hy))
      intro e; subst e; exact h1 hy)
    rw [List.length_erase_of_mem hx] at this
    have hp := List.length_pos_of_mem hx
    rw [List.length_cons]
    omega

def sideOk (xs : List Int) : Bool := decide (1 ≤ xs.length ∧ xs.length ≤ 12) && decide xs.Nodup && xs.all fun x => decide (0 ≤ x ∧ x < 100)
theorem choosing_side (b : Buy) : isChoosing b = (sideOk b.1 && sideOk b.2 && b.2.all fun x => decide (x ∈ b.1)) := by
  obtain ⟨os, ts⟩ := b
  unfold isChoosing unlike sideOk
  rw [Bool.eq_iff_iff]
  simp only [Bool.and_eq_true, decide_eq_true_eq, List.all_eq_true]
  constructor
  · rintro ⟨⟨⟨⟨⟨a1, a2⟩, a3⟩, ⟨b1, b2⟩, b3⟩, c⟩, d⟩
    have := nodup_sub_le b2 d
    exact ⟨⟨⟨⟨⟨by omega, by omega⟩, a2⟩, a3⟩, ⟨⟨by omega, by omega⟩, b2⟩, b3⟩, d⟩
  · rintro ⟨⟨⟨⟨⟨a1, a1'⟩, a2⟩, a3⟩, ⟨⟨b1, b1'⟩, b2⟩, b3⟩, d⟩
    exact ⟨⟨⟨⟨⟨by omega, a2⟩, a3⟩, ⟨by omega, b2⟩, b3⟩, by omega⟩, d⟩
theorem minmax_side {xs : List Int} {mn mx : Int} (h1 : minI xs = some mn) (h2 : maxI xs = some mx) : (xs.all fun x => decide (0 ≤ x ∧ x < 100)) = (decide (0 ≤ mn) && decide (mx ≤ 99)) := by
  obtain ⟨a1, b1⟩ := minI_spec h1
  obtain ⟨a2, b2⟩ := maxI_spec h2
  rw [Bool.eq_iff_iff]
  simp only [Bool.and_eq_true, decide_eq_true_eq, List.all_eq_true]
  constructor
  · intro z
    have := z _ a1
    have := z _ a2
    omega
  · rintro ⟨p, q⟩ x hx
    have := b1 x hx
    have := b2 x hx
    omega

theorem side_step (lg : T) (os ts : List Int) (o4 : Option T) (xs : List Int) (h : xs.length ≤ 1000) :
    (sideOk xs = true → Q.law_due_3_L1 [some lg, some (.p (.tuple (enI os))), some (.p (.tuple (enI ts))), some (.p (.tuple (enI xs))), o4] = some (.nx [some lg, some (.p (.tuple (enI os))), some (.p (.tuple (enI ts))), some (.p (.tuple (enI xs))), o4])) ∧
    (sideOk xs = false → Q.law_due_3_L1 [some lg, some (.p (.tuple (enI os))), some (.p (.tuple (enI ts))), some (.p (.tuple (enI xs))), o4] = some (.rt (.p (.bool false)))) := by
  unfold Q.law_due_3_L1
  have hd := len_ddup_int xs
  by_cases c1 : 1 ≤ xs.length
  · have i1 : ¬ (xs.length : Int) < 1 := by omega
    by_cases c2 : xs.length ≤ 12
    · have i2 : ¬ (12 : Int) < (xs.length : Int) := by omega
      by_cases c3 : xs.Nodup
      · have i3 : ((ddup xs).length : Int) = (xs.length : Int) := by rw [Int.ofNat_inj]; exact ddup_eq.mpr c3
        obtain ⟨mn, hmn⟩ := minI_some (xs := xs) (fun z => by subst z; simp only [List.length_nil] at c1; omega)
        obtain ⟨mx, hmx⟩ := maxI_some (xs := xs) (fun z => by subst z; simp only [List.length_nil] at c1; omega)
        have hok : sideOk xs = (decide (0 ≤ mn) && decide (mx ≤ 99)) := by
          unfold sideOk
          rw [minmax_side hmn hmx]
          simp [c1, c2, c3]
        rw [hok]
        by_cases z1 : 0 ≤ mn
        · have z1' : ¬ mn < 0 := by omega
          by_cases z2 : mx ≤ 99
          · have z2' : ¬ 99 < mx := by omega
            simp [enI_length, i1, i2, i3, lenSet_t xs h, minT_t hmn, maxT_t hmx, z1, z1', z2, z2']
          · have z2' : 99 < mx := by omega
            simp [enI_length, i1, i2, i3, lenSet_t xs h, minT_t hmn, maxT_t hmx, z1, z1', z2, z2']
        · have z1' : mn < 0 := by omega
          simp [enI_length, i1, i2, i3, lenSet_t xs h, minT_t hmn, z1, z1']
      · have i3 : ¬ ((ddup xs).length : Int) = (xs.length : Int) := by rw [Int.ofNat_inj]; exact fun z => c3 (ddup_eq.mp z)
        have hok : sideOk xs = false := by simp [sideOk, c3]
        rw [hok]
        refine ⟨fun z => (nomatch z), fun _ => ?_⟩
        simp [enI_length, i1, i2, i3, lenSet_t xs h]
    · have i2 : (12 : Int) < (xs.length : Int) := by omega
      have hok : sideOk xs = false := by simp [sideOk, c2]
      rw [hok]
      refine ⟨fun z => (nomatch z), fun _ => ?_⟩
      simp [enI_length, i1, i2]
  · have i1 : (xs.length : Int) < 1 := by omega
    have hok : sideOk xs = false := by simp [sideOk, c1]
    rw [hok]
    refine ⟨fun z => (nomatch z), fun _ => ?_⟩
    simp [enI_length, i1]

theorem ne_nil_ints (xs : List Int) : M.neT (.p (.list (enI xs))) (.p (.list [])) = some (.p (.bool (!xs.isEmpty))) := by
  have h1 : SeqAt.shaped (.list (enI xs)) = true := by
    simp [SeqAt.shaped, PyData.canLay0, canLay_ints, PyData.depth, depth_enI]
  have h2 : SeqAt.shaped (.list []) = true := by simp [SeqAt.shaped, PyData.canLay0, PyData.canLayAll0, PyData.depth, PyData.depthAll]
  simp only [M.neT, ev_snap, Option.bind_some, h1, h2, and_self, if_true]
  cases xs <;> simp [enI, PyData.eqv, PyData.eqvAll]
theorem lc_filter {g : D → En → Option En} {tt : En → Option Bool} {me : EM} {env : En} (p : Int → Bool) (xs : List Int) (h : ∀ x ∈ xs, ∃ e, g (.int x) env = some e ∧ tt e = some (p x) ∧ (p x = true → me e = some (.p (.int x)))) :
    lcRun g tt me env (enI xs) = some (enI (xs.filter p)) := by
  have := lcRun_of PyData.int p (fun x => .int x) xs h
  unfold enI
  exact this

theorem law_due3 (lg : List Buy) (h : Sane lg) : callT Q.law_due_3 [.p (enBk lg)] = some (.p (.bool (isLog lg))) := by
  refine callT_p rfl ?_
  unfold Q.law_due_3 runFn startE enBk isLog
  have L2' : 2 ≤ LIM := by decide
  have L0 : 0 ≤ LIM := Nat.zero_le _
  obtain ⟨s1, s2⟩ := forRun_search (g := gTp (gCn (gNm 1) (gCn (gNm 2) (gNl)))) (mb := Q.law_due_3_L2) enB isChoosing (.p (.bool false)) (fun e => ∃ x y z u, e = [some (.p (.list (lg.map enB))), x, y, z, u]) lg [some (.p (.list (lg.map enB))), none, none, none, none] ⟨_, _, _, _, rfl⟩ (by
    rintro ⟨os, ts⟩ hx _ ⟨x, y, z, u, rfl⟩
    have hs := h.2 _ hx
    simp only at hs
    refine ⟨[some (.p (.list (lg.map enB))), some (.p (.tuple (enI os))), some (.p (.tuple (enI ts))), z, u], rfl, ?_⟩
    rw [choosing_side]
    simp only
    have a1 := side_step (.p (.list (lg.map enB))) os ts u os hs.1
    have a2 := side_step (.p (.list (lg.map enB))) os ts u ts hs.2
    have l1 : lcRun (gNm 4) (bOp notInT (mVar 4) (mVar 1)) (mVar 4) [some (.p (.list (lg.map enB))), some (.p (.tuple (enI os))), some (.p (.tuple (enI ts))), some (.p (.tuple (enI ts))), none] (enI ts) = some (enI (ts.filter fun x => !decide (x ∈ os))) :=
      lc_filter (fun x => !decide (x ∈ os)) ts fun x hx => ⟨_, rfl, by simp [notIn_t], fun _ => by simp⟩
    have q1 : (ts.filter fun x => !decide (x ∈ os)).length ≤ LIM := Nat.le_trans (List.length_filter_le _ _) (by unfold LIM; omega)
    have hemp : (ts.filter fun x => !decide (x ∈ os)).isEmpty = ts.all fun x => decide (x ∈ os) := by
      rw [Bool.eq_iff_iff, List.isEmpty_iff, List.filter_eq_nil_iff, List.all_eq_true]
      exact ⟨fun z x hx => by have := z x hx; simpa using this, fun z x hx => by have := z x hx; simpa using this⟩
    unfold Q.law_due_3_L2
    cases b1 : sideOk os
    · have a1' := a1.2 b1
      refine ⟨fun z => by simp at z, fun _ => ?_⟩
      simp [L2', forRun, a1']
    · have a1' := a1.1 b1
      cases b2 : sideOk ts
      · have a2' := a2.2 b2
        refine ⟨fun z => by simp at z, fun _ => ?_⟩
        simp [L2', forRun, a1', a2']
      · have a2' := a2.1 b2
        rw [← hemp]
        have hne := ne_nil_ints (ts.filter fun x => !decide (x ∈ os))
        cases hb : (ts.filter fun x => !decide (x ∈ os)).isEmpty
        · rw [hb] at hne
          refine ⟨fun z => by simp at z, fun _ => ?_⟩
          simp only [ev_sCons, ev_sFor, ev_iSeq, ev_mTup, ev_aCons, ev_mVar, ev_aNil, ev_sIf, ev_bOp, ev_mLc, ev_iSeqB]
          simp [L2', L0, forRun, a1', a2', l1, enI_length, q1, hne]
        · rw [hb] at hne
          refine ⟨fun _ => ⟨[some (.p (.list (lg.map enB))), some (.p (.tuple (enI os))), some (.p (.tuple (enI ts))), some (.p (.tuple (enI ts))), u], .inl ?_, _, _, _, _, rfl⟩, fun z => by simp at z⟩
          · simp only [ev_sCons, ev_sFor, ev_iSeq, ev_mTup, ev_aCons, ev_mVar, ev_aNil, ev_sIf, ev_bOp, ev_mLc, ev_iSeqB]
            simp [L2', L0, forRun, a1', a2', l1, enI_length, q1, hne])
  by_cases c1 : 1 ≤ lg.length ∧ lg.length ≤ 16
  · have i1 : ¬ ((lg.length : Int) < 1) := by omega
    have i2 : ¬ (16 < (lg.length : Int)) := by omega
    have hdec : decide (1 ≤ lg.length ∧ lg.length ≤ 16) = true := by simp [c1]
    rw [hdec, Bool.true_and]
    cases hv : lg.all isChoosing with
    | true =>
      obtain ⟨e, he, _⟩ := s1 hv
      simp [i1, i2, he]
    | false =>
      have he := s2 hv
      simp [i1, i2, he]
  · have : ((lg.length : Int) < 1) ∨ (16 < (lg.length : Int)) := by omega
    have hdec : decide (1 ≤ lg.length ∧ lg.length ≤ 16) = false := by simp only [c1, decide_false]
    rw [hdec]
    rcases this with z | z
    · simp [z]
    · by_cases z1 : (lg.length : Int) < 1
      · simp [z1]
      · simp [z1, z]
end B
/-! B9: the law's logs. -/
namespace B
open PySem PySem.Spec PyProof.Rows L2 M

theorem lc_enum {g : D → En → Option En} {tt : En → Option Bool} {me : EM} {env : En} : ∀ (xs : List Int) (k : Nat) (p : Nat → Int → Bool), (∀ j x, xs[j]? = some x → ∃ e, g (.tuple [.int ((k + j : Nat) : Int), .int x]) env = some e ∧ tt e = some (p j x) ∧ (p j x = true → me e = some (.p (.int x)))) →
    ∃ ys, lcRun g tt me env (enumD k (enI xs)) = some (enI ys) ∧ ys.Sublist xs ∧ ∀ j x, xs[j]? = some x → p j x = true → x ∈ ys
  | [], k, p, _ => ⟨[], rfl, List.Sublist.refl _, fun j x h => by simp at h⟩
  | x :: r, k, p, h => by
    obtain ⟨e, h1, h2, h3⟩ := h 0 x rfl
    obtain ⟨ys, i1, i2, i3⟩ := lc_enum r (k + 1) (fun j => p (j + 1)) (fun j y hj => by
      have := h (j + 1) y (by simpa using hj)
      rw [show k + 1 + j = k + (j + 1) by omega]
      exact this)
    cases hp : p 0 x with
    | true =>
      refine ⟨x :: ys, ?_, i2.cons_cons x, ?_⟩
      · have : enumD k (enI (x :: r)) = .tuple [.int ((k + 0 : Nat) : Int), .int x] :: enumD (k + 1) (enI r) := rfl
        rw [this]
        simp only [lcRun, h1, h2, hp, Option.bind_some, h3 hp]
        simp only [if_true, ev_pure, Option.bind_some, i1, Option.map_some]
        rfl
      · intro j y hj hpy
        cases j with
        | zero => simp at hj; subst hj; exact List.mem_cons_self
        | succ j => exact List.mem_cons_of_mem _ (i3 j y (by simpa using hj) hpy)
    | false =>
      refine ⟨ys, ?_, i2.cons x, ?_⟩
      · have : enumD k (enI (x :: r)) = .tuple [.int ((k + 0 : Nat) : Int), .int x] :: enumD (k + 1) (enI r) := rfl
        rw [this]
        simp only [lcRun, h1, h2, hp, Option.bind_some]
        simp [i1]
      · intro j y hj hpy
        cases j with
        | zero => simp at hj; subst hj; rw [hp] at hpy; cases hpy
        | succ j => exact i3 j y (by simpa using hj) hpy

theorem mp_ins (ps : List Int) (k : Nat) (v : Int) : ((enI ps).map T.p).take k ++ [T.p (.int v)] ++ ((enI ps).map T.p).drop k = (enI (ps.take k ++ [v] ++ ps.drop k)).map T.p := by
  simp [enI, List.map_take, List.map_drop]
theorem perm_ins (ps : List Int) (k : Nat) (v : Int) : (ps.take k ++ [v] ++ ps.drop k).Perm (ps ++ [v]) := by
  have h : (ps.take k ++ [v] ++ ps.drop k).Perm (ps.take k ++ (ps.drop k ++ [v])) := by
    rw [List.append_assoc]
    exact List.Perm.append_left _ List.perm_append_comm
  rw [← List.append_assoc, List.take_append_drop] at h
  exact h
theorem mixed (row picks : List Int) (hl : row.length ≤ picks.length) (hl2 : row.length ≤ 1000) :
    ∃ ys : List Int, callT Q.law_mixed [.p (.list (enI row)), .p (.list (enI picks))] = some (.p (.list (enI ys))) ∧ ys.Perm row := by
  have key : ∃ ys : List Int, Q.law_mixed [.p (.list (enI row)), .p (.list (enI picks))] = some (mI ys) ∧ ys.Perm row := by
    unfold Q.law_mixed runFn startE
    obtain ⟨e, he, ys, o3, o4, rfl, hys⟩ := forRun_inv (g := gTp (gCn (gNm 3) (gCn (gNm 4) (gNl)))) (mb := Q.law_mixed_L1)
      (fun i e => ∃ (ys : List Int) (o3 o4 : Option T), e = [some (.p (.list (enI row))), some (.p (.list (enI picks))), some (mI ys), o3, o4] ∧ ys.Perm (row.take i))
      (enumD 0 (enI row)) [some (.p (.list (enI row))), some (.p (.list (enI picks))), some (mI []), none, none] 0 ⟨[], _, _, rfl, List.Perm.refl _⟩ (by
        rintro i d e hd ⟨ys, o3, o4, rfl, hys⟩
        obtain ⟨a, ha, rfl⟩ := enumD_get hd
        have hi : i < row.length := by
          have := (List.getElem?_eq_some_iff.mp ha).1
          rwa [enI_length] at this
        have ha' : a = .int row[i] := by
          unfold enI at ha
          simp [hi] at ha
          exact ha.symm
        subst ha'
        rw [Nat.zero_add] at hys ⊢
        have hyl : ys.length = i := by
          have := hys.length_eq
          rw [List.length_take] at this
          omega
        obtain ⟨pk, _, hpk⟩ := atI_ex (xs := picks) (i := (i : Int)) (by omega) (by omega)
        have hp1 : (0 : Int) < (ys.length : Int) + 1 := by omega
        have hp0 : (ys.length : Int) + 1 ≠ 0 := by omega
        have k0 := Int.emod_nonneg pk hp0
        have k1 := Int.emod_lt_of_pos pk hp1
        obtain ⟨k, hk⟩ : ∃ k, pk % ((ys.length : Int) + 1) = k := ⟨_, rfl⟩
        rw [hk] at k0 k1
        have hins : insN ((enI ys).map T.p) k (.int row[i]) = some ((enI (ys.take k.toNat ++ [row[i]] ++ ys.drop k.toNat)).map T.p) := by
          unfold insN
          rw [if_pos ⟨k0, by omega, by rw [List.length_map, enI_length]; unfold LIM; omega⟩, mp_ins]
        refine ⟨[some (.p (.list (enI row))), some (.p (.list (enI picks))), some (mI ys), some (.p (.int i)), some (.p (.int row[i]))], [some (.p (.list (enI row))), some (.p (.list (enI picks))), some (mI (ys.take k.toNat ++ [row[i]] ++ ys.drop k.toNat)), some (.p (.int i)), some (.p (.int row[i]))], by simp, .inl ?_, _, _, _, rfl, ?_⟩
        · unfold Q.law_mixed_L1
          have hlm := len_mI ys
          simp only [mI] at hlm ⊢
          simp [-List.length_map, -ev_lenm, hpk, hlm, hp0, fmod_pos hp1, hk, hins]
        · refine (perm_ins ys _ _).trans ?_
          rw [List.take_succ, List.getElem?_eq_getElem hi]
          exact List.Perm.append_right _ hys)
    refine ⟨ys, ?_, ?_⟩
    · have L0 : 0 ≤ LIM := Nat.zero_le _
      have he' := he
      simp only [mI, enI, List.map_nil] at he'
      simp [mI, enI, L0, he']
    · rw [Nat.zero_add, enumD_length, enI_length, List.take_length] at hys
      exact hys
  obtain ⟨ys, h1, h2⟩ := key
  exact ⟨ys, callT_snap rfl h1 (snap_mI ys), h2⟩
end B
/-! B10: the law's logs, the turn. -/
namespace B
open PySem PySem.Spec PyProof.Rows L2 M

structure GoodCh (b : Buy) : Prop where
  o1 : 1 ≤ b.1.length
  o12 : b.1.length ≤ 12
  t1 : 1 ≤ b.2.length
  on : b.1.Nodup
  tn : b.2.Nodup
  sub : ∀ x ∈ b.2, x ∈ b.1
  rng : ∀ x ∈ b.1, 0 ≤ x ∧ x < 100
theorem GoodCh.t12 {b : Buy} (h : GoodCh b) : b.2.length ≤ 12 := Nat.le_trans (nodup_sub_le h.tn h.sub) h.o12
structure GoodThings (ts : List Int) : Prop where
  l1 : 1 ≤ ts.length
  l2 : ts.length ≤ 60
  nd : ts.Nodup
  rng : ∀ x ∈ ts, 0 ≤ x ∧ x < 100
structure GoodOff (ts os : List Int) : Prop where
  l1 : 1 ≤ os.length
  l12 : os.length ≤ 12
  nd : os.Nodup
  sub : ∀ x ∈ os, x ∈ ts
theorem GoodOff.perm {ts os os' : List Int} (h : GoodOff ts os) (p : os'.Perm os) : GoodOff ts os' :=
  ⟨by rw [p.length_eq]; exact h.l1, by rw [p.length_eq]; exact h.l12, p.nodup_iff.mpr h.nd, fun x hx => h.sub x (p.mem_iff.mp hx)⟩

theorem window {ts : List Int} (hn : ts.Nodup) (f n : Nat) (hf : f ≤ ts.length) (hl : n ≤ ts.length) : (((ts ++ ts).drop f).take n).Nodup ∧ ∀ x ∈ ((ts ++ ts).drop f).take n, x ∈ ts := by
  have e : ((ts ++ ts).drop f).take ts.length = ts.drop f ++ ts.take f := by
    rw [List.drop_append_of_le_length hf, List.take_append, List.length_drop]
    rw [List.take_of_length_le (by rw [List.length_drop]; omega)]
    rw [show ts.length - (ts.length - f) = f by omega]
  have p : (ts.drop f ++ ts.take f).Perm ts := by
    have := List.perm_append_comm (l₁ := ts.drop f) (l₂ := ts.take f)
    rwa [List.take_append_drop] at this
  have s : (((ts ++ ts).drop f).take n).Sublist (ts.drop f ++ ts.take f) := by
    rw [← e]
    have : ((ts ++ ts).drop f).take n = (((ts ++ ts).drop f).take ts.length).take n := by rw [List.take_take, Nat.min_eq_left hl]
    rw [this]
    exact List.take_sublist _ _
  exact ⟨s.nodup (p.nodup_iff.mpr hn), fun x hx => p.mem_iff.mp (s.subset hx)⟩

def LogInv (ns heads things : List Int) (at' : Int) (i : Nat) (e : En) : Prop := e.length = 20 ∧ e[0]? = some (some (.sc ns)) ∧ e[1]? = some (some (.p (.int at'))) ∧ e[3]? = some (some (.p (.list (enI heads)))) ∧ e[5]? = some (some (.p (.list (enI things)))) ∧
  ∃ lg : List Buy, e[9]? = some (some (.ml (lg.map fun b => T.p (enB b)))) ∧ lg.length = i ∧ ∀ b ∈ lg, GoodCh b

theorem enI_ne {xs : List Int} (h : 1 ≤ xs.length) : ¬ enI xs = [] := by
  cases xs with
  | nil => simp at h
  | cons x r => exact fun z => nomatch z
theorem minT_ints {xs : List Int} {m : Int} (h : minI xs = some m) : minT [.p (.list (enI xs))] = some (.p (.int m)) := by
  unfold enI
  simp [minT, intsOf_map, h]
theorem log_turn (ns heads things : List Int) (at' : Int) (h1 : 0 ≤ at') (hh : heads.length = 20) (hh2 : ∀ x ∈ heads, 0 ≤ x ∧ x < 1000000) (ht : GoodThings things)
    (e : En) (i : Nat) (hi : i < 1000) (hinv : LogInv ns heads things at' i e) (e10 : e[10]? = some (some (.p (.int i)))) :
    ∃ e', Q.law_a_log_L2 e = some (.nx e') ∧ LogInv ns heads things at' (i + 1) e' := by
  obtain ⟨hl, e0, e1, e3, e5, lg, e9, hbl, hlg⟩ := hinv
  obtain ⟨c, hc⟩ := c_cell_at ns (at' + 1) (by omega)
  obtain ⟨h15, m15, q15⟩ := atI_ex (xs := heads) (i := 15) (by decide) (by omega)
  obtain ⟨h16, m16, q16⟩ := atI_ex (xs := heads) (i := 16) (by decide) (by omega)
  obtain ⟨h17, m17, q17⟩ := atI_ex (xs := heads) (i := 17) (by decide) (by omega)
  obtain ⟨h2, m2, q2⟩ := atI_ex (xs := heads) (i := 2) (by decide) (by omega)
  obtain ⟨h3, m3, q3⟩ := atI_ex (xs := heads) (i := 3) (by decide) (by omega)
  obtain ⟨picks, hp, hpl, hpx⟩ := c_draws (c + i * (h15 + 1)) 30 1000000 (by decide) (by decide) (by decide) (by decide)
  have hpl : picks.length = 30 := hpl
  have hm1 : mulOk (i : Int) (h15 + 1) = true := mulOk_l (by omega)
  obtain ⟨p29, _, q29⟩ := atI_ex (xs := picks) (i := 29) (by decide) (by omega)
  obtain ⟨p14, _, q14⟩ := atI_ex (xs := picks) (i := 14) (by decide) (by omega)
  obtain ⟨N, hN⟩ : ∃ N : Int, (things.length : Int) = N := ⟨_, rfl⟩
  have ht1 := ht.l1
  have ht2 := ht.l2
  have hN1 : 0 < N := by omega
  have hN0 : N ≠ 0 := by omega
  have fN : ∀ x : Int, x.fmod N = x % N := fun x => fmod_pos hN1
  have f3 : ∀ x : Int, x.fmod 3 = x % 3 := fun x => fmod_pos (by decide)
  have f2 : ∀ x : Int, x.fmod 2 = x % 2 := fun x => fmod_pos (by decide)
  have f8 : ∀ x : Int, x.fmod 8 = x % 8 := fun x => fmod_pos (by decide)
  have f97 : ∀ x : Int, x.fmod 97 = x % 97 := fun x => fmod_pos (by decide)
  have g8 : ∀ x : Int, x.fdiv 8 = x / 8 := fun x => fdiv_pos (by decide)
  have d8 : divOk 8 = true := by decide
  have L2' : 2 ≤ LIM := by decide
  have L1 : 1 ≤ LIM := by decide
  have L0 : 0 ≤ LIM := Nat.zero_le _
  unfold Q.law_a_log_L2
  refine exE (e.set 11 (some (.p (.list (enI picks))))) (by simp [e0, e1, e3, e10, hc, q15, hm1, hp]) ?_
  obtain ⟨first, hfi, hf0, hf1⟩ : ∃ f, p29 / 8 % N = f ∧ 0 ≤ f ∧ f < N := ⟨_, rfl, Int.emod_nonneg _ hN0, Int.emod_lt_of_pos _ hN1⟩
  refine exE ((e.set 11 (some (.p (.list (enI picks))))).set 12 (some (.p (.int first)))) (by
    simp [-getElem?_pos, hl, q29, d8, g8, e5, enI_length, hN, hN0, fN, hfi]) ?_
  obtain ⟨sm, hsm⟩ : ∃ sm, sm = ((things ++ things).drop first.toNat).take (min 12 things.length) := ⟨_, rfl⟩
  obtain ⟨w1, w2⟩ := window ht.nd first.toNat (min 12 things.length) (by omega) (by omega)
  rw [← hsm] at w1 w2
  have hsl : sm.length ≤ 12 := by rw [hsm, List.length_take]; omega
  have hcut : cutL (enI things ++ enI things) (some first) (some (first + min 12 N)) = enI sm := by
    rw [cut_ft _ _ _ hf0 (by omega), hsm]
    have e1 : enI things ++ enI things = enI (things ++ things) := by simp [enI]
    have e2 : (first + min 12 N).toNat - first.toNat = min 12 things.length := by omega
    rw [e1, e2]
    simp [enI, List.map_take, List.map_drop]
  refine exE (((e.set 11 (some (.p (.list (enI picks))))).set 12 (some (.p (.int first)))).set 13 (some (.p (.list (enI sm))))) (by
    have h2 : (2 : Int).toNat = 2 := rfl
    have hz : things.length * 2 ≤ LIM := by unfold LIM; omega
    simp only [ev_sSet, ev_mSlice, ev_mOp, ev_mVar, ev_mC, ev_oSome, ev_mCall, ev_aCons, ev_aNil]
    simp [-getElem?_pos, hl, e5, enI_length, hN, hz, hcut]) ?_
  generalize hB : ((e.set 11 (some (.p (.list (enI picks))))).set 12 (some (.p (.int first)))).set 13 (some (.p (.list (enI sm)))) = B
  have bl : B.length = 20 := by rw [← hB]; simp [hl]
  have b0 : B[0]? = some (some (.sc ns)) := by rw [← hB]; simp [e0]
  have b1 : B[1]? = some (some (.p (.int at'))) := by rw [← hB]; simp [e1]
  have b3 : B[3]? = some (some (.p (.list (enI heads)))) := by rw [← hB]; simp [e3]
  have b5 : B[5]? = some (some (.p (.list (enI things)))) := by rw [← hB]; simp [e5]
  have b9 : B[9]? = some (some (.ml (lg.map fun b => T.p (enB b)))) := by rw [← hB]; simp [e9]
  have b11 : B[11]? = some (some (.p (.list (enI picks)))) := by rw [← hB]; simp [-getElem?_pos, hl]
  have b13 : B[13]? = some (some (.p (.list (enI sm)))) := by rw [← hB]; simp [-getElem?_pos, hl]
  clear hB
  have hlc : ∀ xs : List Int, xs.length ≤ 12 → (enI xs).length ≤ LIM := fun xs h => by rw [enI_length]; unfold LIM; omega
  -- offers
  refine exS (fun E => ∃ os, E = B.set 14 (some (.p (.list (enI os)))) ∧ os.Nodup ∧ (∀ x ∈ os, x ∈ things) ∧ os.length ≤ 12) ?_ ?_
  · obtain ⟨ys, y1, y2, y3⟩ := lc_enum (g := gTp (gCn (gNm 19) (gCn (gNm 8) (gNl)))) (tt := bOp gtT (mOp modT (mOp idxT (mVar 11) (mVar 19)) (mC (.int 3))) (mC (.int 0))) (me := mVar 8) (env := (B.set 8 none).set 19 none) sm 0 (fun j x => decide (0 < (picks.getD j 0) % 3)) (by
      intro j x hj
      have hjl := (List.getElem?_eq_some_iff.mp hj).1
      have ha : atI (enI picks) (j : Int) = some (.int (picks.getD j 0)) := by
        have := atI_enI (xs := picks) (i := (j : Int)) (by omega) (by omega)
        simpa using this
      rw [Nat.zero_add]
      exact ⟨_, by simp <;> rfl, by simp [-getElem?_pos, -List.getD_eq_getElem?_getD, bl, b11, ha, f3], fun _ => by simp [-getElem?_pos, bl]⟩)
    exact ⟨_, by simp [-getElem?_pos, bl, b13, y1, hlc ys (Nat.le_trans y2.length_le hsl)] <;> rfl, ys, rfl, y2.nodup w1, fun x hx => w2 x (y2.subset hx), Nat.le_trans y2.length_le hsl⟩
  rintro _ ⟨os0, rfl, n0, s0, l0⟩
  refine exS (fun E => ∃ os, E = B.set 14 (some (.p (.list (enI os)))) ∧ GoodOff things os) ?_ ?_
  · by_cases hz : 1 ≤ os0.length
    · have hne := enI_ne hz
      exact ⟨_, by simp [-getElem?_pos, bl, hne] <;> rfl, os0, rfl, hz, l0, n0, s0⟩
    · have hz' : os0 = [] := List.length_eq_zero_iff.mp (by omega)
      subst hz'
      obtain ⟨y, hy, qy⟩ := atI_ex (xs := things) (i := p14 % N) (Int.emod_nonneg _ hN0) (by rw [hN]; exact Int.emod_lt_of_pos _ hN1)
      exact ⟨B.set 14 (some (.p (.list (enI [y])))), by simp [-getElem?_pos, bl, show enI [] = [] from rfl, show enI [y] = [.int y] from rfl, b5, b11, q14, enI_length, hN, hN0, fN, qy, L1], [y], rfl, by simp, by simp, by simp, by simpa using hy⟩
  rintro _ ⟨os1, rfl, g1⟩
  -- mixed
  have hs1 : cutL (enI picks) (some 15) (some 29) = enI ((picks.drop 15).take 14) := by
    rw [cut_ft _ _ _ (by decide) (by decide)]
    simp [enI, List.map_take, List.map_drop]
  obtain ⟨pk2, hs2, hpk2⟩ : ∃ pk2 : List Int, cutL (enI picks) (some 1) (some 15) = enI pk2 ∧ pk2.length = 14 := by
    refine ⟨(picks.drop 1).take 14, ?_, by simp [hpl]⟩
    rw [cut_ft _ _ _ (by decide) (by decide)]
    simp [enI, List.map_take, List.map_drop]
  have hpk1 : ((picks.drop 15).take 14).length = 14 := by simp [hpl]
  obtain ⟨os, ho, hop⟩ := mixed os1 ((picks.drop 15).take 14) (by rw [hpk1]; have := g1.l12; omega) (by have := g1.l12; omega)
  have go := g1.perm hop
  refine exE (B.set 14 (some (.p (.list (enI os))))) (by simp [-getElem?_pos, bl, b11, hs1, ho]) ?_
  clear g1 hop ho
  obtain ⟨by', hby, hby0⟩ : ∃ b : Int, atI [PyData.int 1, .int 20] (h16 % 2) = some (.int b) ∧ (b = 1 ∨ b = 20) := by
    rcases (show h16 % 2 = 0 ∨ h16 % 2 = 1 by omega) with z | z <;> rw [z]
    · exact ⟨1, rfl, .inl rfl⟩
    · exact ⟨20, rfl, .inr rfl⟩
  refine exE ((B.set 14 (some (.p (.list (enI os))))).set 15 (some (.p (.int by')))) (by simp [-getElem?_pos, bl, b3, q16, f2, hby, L2']) ?_
  generalize hC : (B.set 14 (some (.p (.list (enI os))))).set 15 (some (.p (.int by'))) = C
  have cl : C.length = 20 := by rw [← hC]; simp [bl]
  have c0 : C[0]? = some (some (.sc ns)) := by rw [← hC]; simp [b0]
  have c1 : C[1]? = some (some (.p (.int at'))) := by rw [← hC]; simp [b1]
  have c3 : C[3]? = some (some (.p (.list (enI heads)))) := by rw [← hC]; simp [b3]
  have c5 : C[5]? = some (some (.p (.list (enI things)))) := by rw [← hC]; simp [b5]
  have c9 : C[9]? = some (some (.ml (lg.map fun b => T.p (enB b)))) := by rw [← hC]; simp [b9]
  have c11 : C[11]? = some (some (.p (.list (enI picks)))) := by rw [← hC]; simp [b11]
  have c14 : C[14]? = some (some (.p (.list (enI os)))) := by rw [← hC]; simp [-getElem?_pos, bl]
  have c15 : C[15]? = some (some (.p (.int by'))) := by rw [← hC]; simp [-getElem?_pos, bl]
  clear hC
  have hol := go.l12
  have hol1 := go.l1
  obtain ⟨fl, hfl⟩ : ∃ fl : Int → Int, fl = fun x => (h2 % 97 * x + h3) % 97 / by' := ⟨_, rfl⟩
  have dby : divOk by' = true := by rcases hby0 with z | z <;> subst z <;> decide
  have gby : ∀ x : Int, x.fdiv by' = x / by' := fun x => fdiv_pos (by omega)
  refine exE (C.set 16 (some (.p (.list (enI (os.map fl)))))) (by
    have : lcRun (gNm 8) bYes (mOp fdivT (mOp modT (mOp addT (mOp mulT (mOp modT (mOp idxT (mVar 3) (mC (.int 2))) (mC (.int 97))) (mVar 8)) (mOp idxT (mVar 3) (mC (.int 3)))) (mC (.int 97))) (mVar 15)) (C.set 8 none) (enI os) = some (enI (os.map fl)) := by
      refine lc_ints _ _ fun x hx => ⟨_, rfl, rfl, ?_⟩
      have hm : mulOk (h2 % 97) x = true := mulOk_l (by omega)
      simp [-getElem?_pos, cl, c3, c15, q2, q3, f97, hm, dby, gby, hfl]
    simp [-getElem?_pos, cl, c14, this, hlc (os.map fl) (by simpa using hol)]) ?_
  have hlne : os.map fl ≠ [] := fun z => by have := congrArg List.length z; simp only [List.length_map, List.length_nil] at this; omega
  obtain ⟨mn, hmn⟩ := minI_some hlne
  obtain ⟨mn1, mn2⟩ := minI_spec hmn
  have hminT := minT_ints hmn
  refine exE ((C.set 16 (some (.p (.list (enI (os.map fl)))))).set 17 (some (.p (.int mn)))) (by simp [-getElem?_pos, cl, hminT]) ?_
  generalize hE : (C.set 16 (some (.p (.list (enI (os.map fl)))))).set 17 (some (.p (.int mn))) = E
  have dl : E.length = 20 := by rw [← hE]; simp [cl]
  have d0 : E[0]? = some (some (.sc ns)) := by rw [← hE]; simp [c0]
  have d1 : E[1]? = some (some (.p (.int at'))) := by rw [← hE]; simp [c1]
  have d3 : E[3]? = some (some (.p (.list (enI heads)))) := by rw [← hE]; simp [c3]
  have d5 : E[5]? = some (some (.p (.list (enI things)))) := by rw [← hE]; simp [c5]
  have d9 : E[9]? = some (some (.ml (lg.map fun b => T.p (enB b)))) := by rw [← hE]; simp [c9]
  have d11 : E[11]? = some (some (.p (.list (enI picks)))) := by rw [← hE]; simp [c11]
  have d14 : E[14]? = some (some (.p (.list (enI os)))) := by rw [← hE]; simp [c14]
  have d16 : E[16]? = some (some (.p (.list (enI (os.map fl))))) := by rw [← hE]; simp [-getElem?_pos, cl]
  have d17 : E[17]? = some (some (.p (.int mn))) := by rw [← hE]; simp [-getElem?_pos, cl]
  clear hE
  -- taken
  have hT : ∀ ys : List Int, ys.Sublist os → 1 ≤ ys.length → GoodOff os ys := fun ys hs h1 => ⟨h1, Nat.le_trans hs.length_le hol, hs.nodup go.nd, fun x hx => hs.subset hx⟩
  refine exS (fun F => ∃ ts, F = E.set 18 (some (.p (.list (enI ts)))) ∧ GoodOff os ts) ?_ ?_
  · obtain ⟨ys, y1, y2, y3⟩ := lc_enum (g := gTp (gCn (gNm 19) (gCn (gNm 8) (gNl)))) (tt := bOp eqT (mOp idxT (mVar 16) (mVar 19)) (mVar 17)) (me := mVar 8) (env := (E.set 8 none).set 19 none) os 0 (fun j x => decide (fl x = mn)) (by
      intro j x hj
      obtain ⟨hjl, hjx⟩ := List.getElem?_eq_some_iff.mp hj
      have ha : atI (enI (os.map fl)) (j : Int) = some (.int (fl x)) := by
        have := atI_enI (xs := os.map fl) (i := (j : Int)) (by omega) (by simp; omega)
        rw [this]
        simp [List.getD, hj]
      rw [Nat.zero_add]
      exact ⟨_, by simp <;> rfl, by simp [-getElem?_pos, dl, d16, d17, ha], fun _ => by simp [-getElem?_pos, dl]⟩)
    have hy1 : 1 ≤ ys.length := by
      obtain ⟨x, hx, hxm⟩ := List.mem_map.mp mn1
      obtain ⟨j, hj⟩ := List.mem_iff_getElem?.mp hx
      have := y3 j x hj (by simp [hxm])
      exact List.length_pos_of_mem this
    exact ⟨_, by simp [-getElem?_pos, dl, d14, y1, hlc ys (Nat.le_trans y2.length_le hol)] <;> rfl, ys, rfl, hT ys y2 hy1⟩
  rintro _ ⟨ts0, rfl, g0⟩
  refine exS (fun F => ∃ ts, F = E.set 18 (some (.p (.list (enI ts)))) ∧ GoodOff os ts) ?_ ?_
  · have hbr : ∃ F, sCons (sSet 18 (mLc (iEn (mVar 14)) [19, 8] (gTp (gCn (gNm 19) (gCn (gNm 8) (gNl)))) (bOp eqT (mOp modT (mOp idxT (mVar 11) (mOp addT (mC (.int 15)) (mVar 19))) (mC (.int 3))) (mC (.int 0))) (mVar 8))) (sSet 18 (mOrL (mVar 18) (mSlice (mVar 14) (oNone) (oSome (mC (.int 1)))))) (E.set 18 (some (.p (.list (enI ts0))))) = some (.nx F) ∧ ∃ ts, F = E.set 18 (some (.p (.list (enI ts)))) ∧ GoodOff os ts := by
      refine exS (fun F => ∃ ts, F = E.set 18 (some (.p (.list (enI ts)))) ∧ ts.Sublist os) ?_ ?_
      · obtain ⟨ys, y1, y2, y3⟩ := lc_enum (g := gTp (gCn (gNm 19) (gCn (gNm 8) (gNl)))) (tt := bOp eqT (mOp modT (mOp idxT (mVar 11) (mOp addT (mC (.int 15)) (mVar 19))) (mC (.int 3))) (mC (.int 0))) (me := mVar 8) (env := ((E.set 18 (some (.p (.list (enI ts0))))).set 8 none).set 19 none) os 0 (fun j x => decide ((picks.getD (15 + j) 0) % 3 = 0)) (by
          intro j x hj
          obtain ⟨hjl, hjx⟩ := List.getElem?_eq_some_iff.mp hj
          have ha : atI (enI picks) (15 + (j : Int)) = some (.int (picks.getD (15 + j) 0)) := by
            have := atI_enI (xs := picks) (i := 15 + (j : Int)) (by omega) (by omega)
            rw [this]
            rw [show (15 + (j : Int)).toNat = 15 + j by omega]
          rw [Nat.zero_add]
          exact ⟨_, by simp <;> rfl, by simp [-getElem?_pos, -List.getD_eq_getElem?_getD, dl, d11, ha, f3], fun _ => by simp [-getElem?_pos, dl]⟩)
        exact ⟨_, by simp [-getElem?_pos, dl, d14, y1, hlc ys (Nat.le_trans y2.length_le hol)] <;> rfl, ys, rfl, y2⟩
      rintro _ ⟨ts1, rfl, hs⟩
      by_cases hz : 1 ≤ ts1.length
      · have hne := enI_ne hz
        exact ⟨_, by simp [-getElem?_pos, dl, hne] <;> rfl, ts1, rfl, hT ts1 hs hz⟩
      · have hz' : ts1 = [] := List.length_eq_zero_iff.mp (by omega)
        subst hz'
        have hcut1 : cutL (enI os) none (some 1) = enI (os.take 1) := by
          rw [cut_to _ _ (by decide)]; simp [enI, List.map_take]
        refine ⟨E.set 18 (some (.p (.list (enI (os.take 1))))), ?_, os.take 1, rfl, hT _ (List.take_sublist _ _) (by rw [List.length_take]; omega)⟩
        simp [-getElem?_pos, dl, d14, show enI [] = [] from rfl, hcut1]
    by_cases hw1 : h17 % 3 = 0
    · obtain ⟨F, hF, hF2⟩ := hbr
      refine ⟨F, ?_, hF2⟩
      rw [← hF]
      simp only [ev_sIf, ev_bOr, ev_bOp]
      simp [-getElem?_pos, -ev_sCons, dl, d3, q17, f3, hw1]
    · by_cases hw2 : p29 % 8 = 0
      · obtain ⟨F, hF, hF2⟩ := hbr
        refine ⟨F, ?_, hF2⟩
        rw [← hF]
        simp only [ev_sIf, ev_bOr, ev_bOp]
        simp [-getElem?_pos, -ev_sCons, dl, d3, d11, q17, q29, f3, f8, hw1, hw2]
      · exact ⟨_, by simp [-getElem?_pos, dl, d3, d11, q17, q29, f3, f8, hw1, hw2] <;> rfl, ts0, rfl, g0⟩
  rintro _ ⟨ts, rfl, gt⟩
  obtain ⟨ms, hms, hmp⟩ := mixed ts pk2 (by rw [hpk2]; have := gt.l12; omega) (by have := gt.l12; omega)
  have gm := gt.perm hmp
  have hbl2 : lg.length < LIM := by unfold LIM; omega
  refine ⟨_, by simp [-getElem?_pos, dl, d14, d11, hs2, hms, L2', d9, hbl2] <;> rfl, ?_⟩
  refine ⟨by simp [dl], by simp [d0], by simp [d1], by simp [d3], by simp [d5], lg ++ [(os, ms)], by simp [-getElem?_pos, dl, enB], by simp [hbl], ?_⟩
  intro x hx
  rcases List.mem_append.mp hx with z | z
  · exact hlg x z
  · have : x = (os, ms) := by simpa using z
    subst this
    exact ⟨hol1, hol, gm.l1, go.nd, gm.nd, gm.sub, fun y hy => ht.rng y (go.sub y hy)⟩
end B
/-! B11: the law's logs. -/
namespace B
open PySem PySem.Spec PyProof.Rows L2 M

def ThInv (ns heads more : List Int) (at' most : Int) (many : Nat) (i : Nat) (e : En) : Prop := ∃ (things : List Int) (o7 o8 : Option T), e = [some (.sc ns), some (.p (.int at')), some (.p (.int most)), some (.p (.list (enI heads))), some (.p (.int many)), some (mI things), some (.p (.list (enI more))), o7, o8, none, none, none, none, none, none, none, none, none, none, none] ∧
  things.Nodup ∧ (∀ x ∈ things, 0 ≤ x ∧ x < 100) ∧ things.length ≤ i ∧ (1 ≤ i → 1 ≤ things.length)
theorem mI_app (ps : List Int) (v : Int) : T.ml ((enI ps).map T.p ++ [T.p (.int v)]) = mI (ps ++ [v]) := by rw [mp_app]; rfl
theorem a_log (ns : List Int) (at' most : Int) (h0 : 0 ≤ at') (hm : 1 ≤ most) (hm2 : most ≤ 100) :
    ∃ (lg : List Buy), callT Q.law_a_log [.sc ns, .p (.int at'), .p (.int most)] = some (.p (enBk lg)) ∧ 1 ≤ lg.length ∧ (lg.length : Int) ≤ most ∧ ∀ b ∈ lg, GoodCh b := by
  obtain ⟨c, hc⟩ := c_cell_at ns at' h0
  obtain ⟨c2, hc2⟩ := c_cell_at ns (at' + 2) (by omega)
  obtain ⟨heads, hp, hhl, hhx⟩ := c_draws c 20 1000000 (by decide) (by decide) (by decide) (by decide)
  obtain ⟨more, hq, hql, hqx⟩ := c_draws c2 40 1000000 (by decide) (by decide) (by decide) (by decide)
  have hhl : heads.length = 20 := hhl
  have hql : more.length = 40 := hql
  obtain ⟨h0', m0, q0⟩ := atI_ex (xs := heads) (i := 0) (by decide) (by omega)
  obtain ⟨h13, m13, q13⟩ := atI_ex (xs := heads) (i := 13) (by decide) (by omega)
  obtain ⟨h14, m14, q14⟩ := atI_ex (xs := heads) (i := 14) (by decide) (by omega)
  obtain ⟨h18, m18, q18⟩ := atI_ex (xs := heads) (i := 18) (by decide) (by omega)
  have f3 : ∀ x : Int, x.fmod 3 = x % 3 := fun x => fmod_pos (by decide)
  have f11 : ∀ x : Int, x.fmod 11 = x % 11 := fun x => fmod_pos (by decide)
  have fm : ∀ x : Int, x.fmod most = x % most := fun x => fmod_pos (by omega)
  have hm0 : most ≠ 0 := by omega
  have L3 : 3 ≤ LIM := by decide
  have L0 : 0 ≤ LIM := Nat.zero_le _
  obtain ⟨many, hmany, hy1, hy2⟩ : ∃ many : Nat, 1 + h0' % most = (many : Int) ∧ 1 ≤ many ∧ (many : Int) ≤ most := by
    have e1 := Int.emod_nonneg h0' hm0
    have e2 := Int.emod_lt_of_pos h0' (show 0 < most by omega)
    exact ⟨(1 + h0' % most).toNat, by omega, by omega, by omega⟩
  obtain ⟨md, hmd, hmd0, hmd1⟩ : ∃ md : Int, atI [PyData.int 8, .int 20, .int 100] (h14 % 3) = some (.int md) ∧ 0 < md ∧ md ≤ 100 := by
    rcases (show h14 % 3 = 0 ∨ h14 % 3 = 1 ∨ h14 % 3 = 2 by omega) with z | z | z <;> rw [z]
    · exact ⟨8, rfl, by omega, by omega⟩
    · exact ⟨20, rfl, by omega, by omega⟩
    · exact ⟨100, rfl, by omega, by omega⟩
  obtain ⟨hi1, hhi1, hi1a, hi1b⟩ : ∃ hi : Int, 3 + h13 % 11 = hi ∧ 3 ≤ hi ∧ hi ≤ 13 := ⟨_, rfl, by omega, by omega⟩
  obtain ⟨xs1, hx1, hx1l, hx1u⟩ : ∃ xs : List Int, cutL (enI heads) (some 1) (some hi1) = enI xs ∧ 2 ≤ xs.length ∧ xs.length ≤ 12 := by
    refine ⟨(heads.drop 1).take (hi1.toNat - 1), ?_, ?_, ?_⟩
    · rw [cut_ft _ _ _ (by decide) (by omega)]
      simp [enI, List.map_take, List.map_drop]
    · rw [List.length_take, List.length_drop]; omega
    · rw [List.length_take, List.length_drop]; omega
  obtain ⟨xs2, hx2, hx2u⟩ : ∃ xs : List Int, cutL (enI more) none (some (40 * if h18 % 3 = 0 then 1 else 0)) = enI xs ∧ xs.length ≤ 40 := by
    refine ⟨more.take (40 * if h18 % 3 = 0 then (1 : Int) else 0).toNat, ?_, ?_⟩
    · rw [cut_to _ _ (by split <;> decide)]
      simp [enI, List.map_take]
    · rw [List.length_take]; omega
  have hsum : enI xs1 ++ enI xs2 = enI (xs1 ++ xs2) := enI_append _ _
  have hm40 : mulOk 40 (if h18 % 3 = 0 then 1 else 0) = true := mulOk_l (by decide)
  obtain ⟨e, he, things, o7, o8, rfl, hn, hr, hlen, hpos⟩ := forRun_inv (g := gNm 7) (mb := Q.law_a_log_L1) (ThInv ns heads more at' most many) (enI (xs1 ++ xs2))
    [some (.sc ns), some (.p (.int at')), some (.p (.int most)), some (.p (.list (enI heads))), some (.p (.int many)), some (mI []), some (.p (.list (enI more))), none, none, none, none, none, none, none, none, none, none, none, none, none] 0
    ⟨[], _, _, rfl, by simp, by simp, by simp, fun z => by omega⟩ (by
      rintro i d e hd ⟨things, o7, o8, rfl, hn, hr, hlen, hpos⟩
      obtain ⟨x, rfl⟩ : ∃ x, d = .int x := by
        have hx := List.mem_of_getElem? hd
        unfold enI at hx
        obtain ⟨x, _, hx⟩ := List.mem_map.mp hx
        exact ⟨x, hx.symm⟩
      have hil : i < 52 := by
        have := (List.getElem?_eq_some_iff.mp hd).1
        rw [enI_length, List.length_append] at this
        omega
      rw [Nat.zero_add] at *
      have hmd' : md ≠ 0 := by omega
      have k0 := Int.emod_nonneg x hmd'
      have k1 := Int.emod_lt_of_pos x hmd0
      have hni := notIn_m things (x % md)
      unfold Q.law_a_log_L1
      by_cases hin : x % md ∈ things
      · refine ⟨_, [some (.sc ns), some (.p (.int at')), some (.p (.int most)), some (.p (.list (enI heads))), some (.p (.int many)), some (mI things), some (.p (.list (enI more))), some (.p (.int x)), some (.p (.int (x % md))), none, none, none, none, none, none, none, none, none, none, none], rfl, .inl ?_, things, _, _, rfl, hn, hr, by omega, fun _ => List.length_pos_of_mem hin⟩
        simp [q14, f3, hmd, hmd', fmod_pos hmd0, L3, hni, hin]
      · refine ⟨_, [some (.sc ns), some (.p (.int at')), some (.p (.int most)), some (.p (.list (enI heads))), some (.p (.int many)), some (mI (things ++ [x % md])), some (.p (.list (enI more))), some (.p (.int x)), some (.p (.int (x % md))), none, none, none, none, none, none, none, none, none, none, none], rfl, .inl ?_, things ++ [x % md], _, _, rfl, ?_, ?_, by simp; omega, fun _ => by simp⟩
        · have hlt : things.length < LIM := by unfold LIM; omega
          simp [q14, f3, hmd, hmd', fmod_pos hmd0, L3, hni, hin]
          simp [mI, enI_length, hlt, mp_app]
        · refine List.nodup_append.mpr ⟨hn, by simp, fun a ha b hb => ?_⟩
          have : b = x % md := by simpa using hb
          subst this
          intro z; subst z; exact hin ha
        · intro y hy
          rcases List.mem_append.mp hy with z | z
          · exact hr y z
          · have : y = x % md := by simpa using z
            subst this; omega)
  rw [enI_length, List.length_append, Nat.zero_add] at hlen hpos
  have gth : GoodThings things := ⟨hpos (by omega), by omega, hn, hr⟩
  have hs : smallI (many : Int) := by unfold smallI; omega
  obtain ⟨e2, he2, hinv⟩ := forRun_inv (g := gNm 10) (mb := Q.law_a_log_L2) (LogInv ns heads things at') (rangeD 0 many)
    [some (.sc ns), some (.p (.int at')), some (.p (.int most)), some (.p (.list (enI heads))), some (.p (.int many)), some (.p (.list (enI things))), some (.p (.list (enI more))), o7, o8, some (.ml []), none, none, none, none, none, none, none, none, none, none] 0
    ⟨rfl, rfl, rfl, rfl, rfl, [], rfl, rfl, fun _ z => nomatch z⟩ (by
      intro i d e hd hP
      have hi : i < many := by
        have := (List.getElem?_eq_some_iff.mp hd).1
        simpa [rangeD] using this
      have hd' : d = .int i := by
        simp [rangeD, hi] at hd
        exact hd.symm
      subst hd'
      obtain ⟨hl, e0, e1, e3, e5, lg, e9, hbl, hbk⟩ := hP
      rw [Nat.zero_add] at hbl ⊢
      have hinv : LogInv ns heads things at' i (e.set 10 (some (.p (.int i)))) := ⟨by simp [hl], by simp [e0], by simp [e1], by simp [e3], by simp [e5], lg, by simp [e9], hbl, hbk⟩
      obtain ⟨e', he', hinv'⟩ := log_turn ns heads things at' h0 hhl hhx gth (e.set 10 (some (.p (.int i)))) i (by omega) hinv (by simp [-getElem?_pos, hl])
      exact ⟨_, e', rfl, .inl he', hinv'⟩)
  obtain ⟨hl, _, _, _, _, lg, e9, hbl, hbk⟩ := hinv
  have hbl : lg.length = many := by simpa [rangeD] using hbl
  refine ⟨lg, ?_, by omega, by omega, hbk⟩
  have key : Q.law_a_log [.sc ns, .p (.int at'), .p (.int most)] = some (.ml (lg.map fun b => T.p (enB b))) := by
    unfold Q.law_a_log
    refine run_of ?_
    rw [show startE 20 [T.sc ns, .p (.int at'), .p (.int most)] = [some (.sc ns), some (.p (.int at')), some (.p (.int most)), none, none, none, none, none, none, none, none, none, none, none, none, none, none, none, none, none] from rfl]
    refine oxE [some (.sc ns), some (.p (.int at')), some (.p (.int most)), some (.p (.list (enI heads))), none, none, none, none, none, none, none, none, none, none, none, none, none, none, none, none] (by simp [hc, hp]) ?_
    refine oxE [some (.sc ns), some (.p (.int at')), some (.p (.int most)), some (.p (.list (enI heads))), some (.p (.int many)), none, none, none, none, none, none, none, none, none, none, none, none, none, none, none] (by simp [q0, hm0, fm, hmany]) ?_
    refine oxE [some (.sc ns), some (.p (.int at')), some (.p (.int most)), some (.p (.list (enI heads))), some (.p (.int many)), some (mI []), none, none, none, none, none, none, none, none, none, none, none, none, none, none] (by simp [L0, mI, enI]) ?_
    refine oxE [some (.sc ns), some (.p (.int at')), some (.p (.int most)), some (.p (.list (enI heads))), some (.p (.int many)), some (mI []), some (.p (.list (enI more))), none, none, none, none, none, none, none, none, none, none, none, none, none] (by simp [hc2, hq]) ?_
    refine oxE [some (.sc ns), some (.p (.int at')), some (.p (.int most)), some (.p (.list (enI heads))), some (.p (.int many)), some (mI things), some (.p (.list (enI more))), o7, o8, none, none, none, none, none, none, none, none, none, none, none] (by
      have hz : xs1.length + xs2.length ≤ LIM := by unfold LIM; omega
      rw [← he]
      simp [q13, q18, f11, f3, hhi1, hx1, hm40, hx2, enI_length, hz, hsum]) ?_
    have hfz : ∀ m : SM, sFrz 5 m [some (.sc ns), some (.p (.int at')), some (.p (.int most)), some (.p (.list (enI heads))), some (.p (.int many)), some (mI things), some (.p (.list (enI more))), o7, o8, none, none, none, none, none, none, none, none, none, none, none] = m [some (.sc ns), some (.p (.int at')), some (.p (.int most)), some (.p (.list (enI heads))), some (.p (.int many)), some (.p (.list (enI things))), some (.p (.list (enI more))), o7, o8, none, none, none, none, none, none, none, none, none, none, none] := by
      intro m
      simp [snap_mI]
    rw [hfz]
    refine oxE [some (.sc ns), some (.p (.int at')), some (.p (.int most)), some (.p (.list (enI heads))), some (.p (.int many)), some (.p (.list (enI things))), some (.p (.list (enI more))), o7, o8, some (.ml []), none, none, none, none, none, none, none, none, none, none] (by simp [L0]) ?_
    refine oxE e2 (by rw [← he2]; simp [hs]) ?_
    exact ⟨_, by simp [-getElem?_pos, e9] <;> rfl, rfl⟩
  exact callT_snap rfl key (snap_bk lg)
end B
/-! B12: k23. -/
namespace B
open PySem PySem.Spec PyProof.Rows L2 M

theorem add_mI (xs ys : List Int) (h : xs.length + ys.length ≤ LIM) : addT (mI xs) (.p (.list (enI ys))) = some (.p (.list (enI (xs ++ ys)))) := by
  have h1 : (mI xs).int? = none := rfl
  have h2 : (mI xs).lst? = some (enI xs) := by simp only [mI, T.lst?, pures_map]
  have h3 : (T.p (.list (enI ys))).lst? = some (enI ys) := rfl
  have h4 : (T.p (.list (enI ys))).int? = none := rfl
  simp only [addT, h1, h2, h3, h4, enI_length, h, if_true, enI_append]
theorem rangeD_enI (a b : Int) : rangeD a b = enI ((List.range (b - a).toNat).map fun (k : Nat) => a + (k : Int)) := by
  unfold rangeD enI
  rw [List.map_map]
  rfl
theorem spoilt4_sides (bk : T) (picks : List Int) (at' : Int) (ps as : List Int) (side k form p4 : Int) (hp4 : atI (enI picks) 4 = some (.int p4)) (hs : side = 0 ∨ side = 1) (hk0 : 0 ≤ k) (hk : k < (if side = 0 then ps.length else as.length)) (hf0 : 0 ≤ form) (hf : form < 10) (hps : ps.length ≤ 12) (has : as.length ≤ 12) (rest : SM) :
    ∃ t o7 ps' as', sCons (sIf (bOp ltT (mVar 6) (mC (.int 3))) (sSetIx (pIx (pVar 3) (mVar 4)) (mVar 5) (mOp idxT (mLst (aCons (mNeg (mC (.int 1))) (aCons (mC (.int 100)) (aCons (mC (.int 99)) (aNil))))) (mVar 6))) (sNil)) (sCons (sIf (bOp eqT (mVar 6) (mC (.int 3))) (sAppend (pIx (pVar 3) (mVar 4)) (mOp idxT (mOp idxT (mVar 3) (mVar 4)) (mVar 5))) (sNil)) (sCons (sIf (bOp eqT (mVar 6) (mC (.int 4))) (sAppend (pIx (pVar 3) (mC (.int 1))) (mOp modT (mOp idxT (mVar 1) (mC (.int 4))) (mC (.int 100)))) (sNil)) (sCons (sIf (bOp eqT (mVar 6) (mC (.int 5))) (sSetIx (pVar 3) (mC (.int 1)) (mLst (aNil))) (sNil)) (sCons (sIf (bOp eqT (mVar 6) (mC (.int 6))) (sFrz 3 (sSet 3 (mLst (aCons (mLst (aNil)) (aCons (mOp idxT (mLst (aCons (mLst (aNil)) (aCons (mOp idxT (mVar 3) (mC (.int 1))) (aNil)))) (mOp modT (mOp idxT (mVar 1) (mC (.int 4))) (mC (.int 2)))) (aNil)))))) (sNil)) (sCons (sIf (bOp eqT (mVar 6) (mC (.int 7))) (sCons (sSet 7 (mLc (iRng2 (mC (.int 60)) (mC (.int 99))) [8] (gNm 8) (bOp notInT (mVar 8) (mOp idxT (mVar 3) (mC (.int 0)))) (mVar 8))) (sSetIx (pVar 3) (mC (.int 0)) (mSlice (mOp addT (mOp idxT (mVar 3) (mC (.int 0))) (mVar 7)) (oNone) (oSome (mOp subT (mC (.int 13)) (mOp modT (mOp idxT (mVar 1) (mC (.int 4))) (mC (.int 2)))))))) (sNil)) rest)))))
      [some bk, some (.p (.list (enI picks))), some (.p (.int at')), some (.ml [mI ps, mI as]), some (.p (.int side)), some (.p (.int k)), some (.p (.int form)), none, none] =
      rest [some bk, some (.p (.list (enI picks))), some (.p (.int at')), some t, some (.p (.int side)), some (.p (.int k)), some (.p (.int form)), o7, none] ∧ t.snap = some (.list [.list (enI ps'), .list (enI as')]) ∧ ps'.length ≤ 100 ∧ as'.length ≤ 100 := by
  have L0 : 0 ≤ LIM := Nat.zero_le _
  have L2' : 2 ≤ LIM := by decide
  have L3 : 3 ≤ LIM := by decide
  have ips : ps.length < LIM := by unfold LIM; omega
  have ias : as.length < LIM := by unfold LIM; omega
  have f100 : ∀ x : Int, x.fmod 100 = x % 100 := fun x => fmod_pos (by decide)
  have f2 : ∀ x : Int, x.fmod 2 = x % 2 := fun x => fmod_pos (by decide)
  have E0 : ∀ (e : En) (n : Int), e[6]? = some (some (.p (.int form))) → form ≠ n → ∀ a : SM, sIf (bOp M.eqT (mVar 6) (mC (.int n))) a sNil e = some (.nx e) := by
    intro e n h6 hne a
    simp [h6, hne]
  rcases (show form < 3 ∨ form = 3 ∨ form = 4 ∨ form = 5 ∨ form = 6 ∨ form = 7 ∨ 8 ≤ form by omega) with c | c | c | c | c | c | c
  · obtain ⟨v, hv⟩ : ∃ v, atI [PyData.int (-1), .int 100, .int 99] form = some (.int v) := by
      rcases (show form = 0 ∨ form = 1 ∨ form = 2 by omega) with z | z | z <;> subst z
      · exact ⟨-1, rfl⟩
      · exact ⟨100, rfl⟩
      · exact ⟨99, rfl⟩
    rcases hs with z | z
    · subst z
      have hk : k < ps.length := by simpa using hk
      have hix : ixN ((enI ps).map T.p).length k = some k.toNat := ixN_of hk0 (by simp [enI_length]; exact hk)
      refine ⟨.ml [mI (ps.set k.toNat v), mI as], none, ps.set k.toNat v, as, ?_, snap2 (snap_mI _) (snap_mI _), by simp; omega, by omega⟩
      rw [stepS (e := [some bk, some (.p (.list (enI picks))), some (.p (.int at')), some (.ml [mI (ps.set k.toNat v), mI as]), some (.p (.int 0)), some (.p (.int k)), some (.p (.int form)), none, none]) (by
        simp only [mI]
        simp [-List.length_map, c, L3, hv, ix20, setN, hix, mp_set])]
      rw [stepS (E0 _ _ rfl (by omega) _), stepS (E0 _ _ rfl (by omega) _), stepS (E0 _ _ rfl (by omega) _), stepS (E0 _ _ rfl (by omega) _), stepS (E0 _ _ rfl (by omega) _)]
    · subst z
      have hk : k < as.length := by simpa using hk
      have hix : ixN ((enI as).map T.p).length k = some k.toNat := ixN_of hk0 (by simp [enI_length]; exact hk)
      refine ⟨.ml [mI ps, mI (as.set k.toNat v)], none, ps, as.set k.toNat v, ?_, snap2 (snap_mI _) (snap_mI _), by omega, by simp; omega⟩
      rw [stepS (e := [some bk, some (.p (.list (enI picks))), some (.p (.int at')), some (.ml [mI ps, mI (as.set k.toNat v)]), some (.p (.int 1)), some (.p (.int k)), some (.p (.int form)), none, none]) (by
        simp only [mI]
        simp [-List.length_map, c, L3, hv, ix21, setN, hix, mp_set])]
      rw [stepS (E0 _ _ rfl (by omega) _), stepS (E0 _ _ rfl (by omega) _), stepS (E0 _ _ rfl (by omega) _), stepS (E0 _ _ rfl (by omega) _), stepS (E0 _ _ rfl (by omega) _)]
  all_goals
    rw [stepS (e := [some bk, some (.p (.list (enI picks))), some (.p (.int at')), some (.ml [mI ps, mI as]), some (.p (.int side)), some (.p (.int k)), some (.p (.int form)), none, none]) (by simp [show ¬ form < 3 by omega])]
  · rcases hs with z | z
    · subst z
      have hk : k < ps.length := by simpa using hk
      obtain ⟨v, _, hv⟩ := atI_ex hk0 hk
      have hv' : atI ((enI ps).map T.p) k = some (T.p (.int v)) := by
        rw [atI_lt hk0 (by simp [enI_length]; exact hk)]
        rw [atI_lt hk0 (by simp [enI_length]; exact hk)] at hv
        simp at hv
        simp [hv]
      have h00 : atI [mI ps, mI as] 0 = some (mI ps) := rfl
      refine ⟨.ml [mI (ps ++ [v]), mI as], none, ps ++ [v], as, ?_, snap2 (snap_mI _) (snap_mI _), by simp; omega, by omega⟩
      rw [stepS (e := [some bk, some (.p (.list (enI picks))), some (.p (.int at')), some (.ml [mI (ps ++ [v]), mI as]), some (.p (.int 0)), some (.p (.int k)), some (.p (.int form)), none, none]) (by
        simp only [mI] at h00 ⊢
        simp [c, h00, hv', ix20, ips, enI_length, mp_app])]
      rw [stepS (E0 _ _ rfl (by omega) _), stepS (E0 _ _ rfl (by omega) _), stepS (E0 _ _ rfl (by omega) _), stepS (E0 _ _ rfl (by omega) _)]
    · subst z
      have hk : k < as.length := by simpa using hk
      obtain ⟨v, _, hv⟩ := atI_ex hk0 hk
      have hv' : atI ((enI as).map T.p) k = some (T.p (.int v)) := by
        rw [atI_lt hk0 (by simp [enI_length]; exact hk)]
        rw [atI_lt hk0 (by simp [enI_length]; exact hk)] at hv
        simp at hv
        simp [hv]
      have h00 : atI [mI ps, mI as] 1 = some (mI as) := rfl
      refine ⟨.ml [mI ps, mI (as ++ [v])], none, ps, as ++ [v], ?_, snap2 (snap_mI _) (snap_mI _), by omega, by simp; omega⟩
      rw [stepS (e := [some bk, some (.p (.list (enI picks))), some (.p (.int at')), some (.ml [mI ps, mI (as ++ [v])]), some (.p (.int 1)), some (.p (.int k)), some (.p (.int form)), none, none]) (by
        simp only [mI] at h00 ⊢
        simp [c, h00, hv', ix21, ias, enI_length, mp_app])]
      rw [stepS (E0 _ _ rfl (by omega) _), stepS (E0 _ _ rfl (by omega) _), stepS (E0 _ _ rfl (by omega) _), stepS (E0 _ _ rfl (by omega) _)]
  all_goals
    rw [stepS (E0 _ _ rfl (by omega) _)]
  · refine ⟨.ml [mI ps, mI (as ++ [p4 % 100])], none, ps, as ++ [p4 % 100], ?_, snap2 (snap_mI _) (snap_mI _), by omega, by simp; omega⟩
    rw [stepS (e := [some bk, some (.p (.list (enI picks))), some (.p (.int at')), some (.ml [mI ps, mI (as ++ [p4 % 100])]), some (.p (.int side)), some (.p (.int k)), some (.p (.int form)), none, none]) (by
      simp only [mI]
      simp [c, hp4, f100, ix21, ias, enI_length, mp_app])]
    rw [stepS (E0 _ _ rfl (by omega) _), stepS (E0 _ _ rfl (by omega) _), stepS (E0 _ _ rfl (by omega) _)]
  all_goals
    rw [stepS (E0 _ _ rfl (by omega) _)]
  · refine ⟨.ml [mI ps, .p (.list (enI []))], none, ps, [], ?_, snap2 (snap_mI _) (by simp), by omega, by simp⟩
    rw [stepS (e := [some bk, some (.p (.list (enI picks))), some (.p (.int at')), some (.ml [mI ps, .p (.list (enI []))]), some (.p (.int side)), some (.p (.int k)), some (.p (.int form)), none, none]) (by
      simp [c, ix21, setN, L0, show enI [] = [] from rfl])]
    rw [stepS (E0 _ _ rfl (by omega) _), stepS (E0 _ _ rfl (by omega) _)]
  all_goals
    rw [stepS (E0 _ _ rfl (by omega) _)]
  · obtain ⟨as', has', hl'⟩ : ∃ as' : List Int, atI [PyData.list [], .list (enI as)] (p4 % 2) = some (.list (enI as')) ∧ as'.length ≤ 12 := by
      rcases (show p4 % 2 = 0 ∨ p4 % 2 = 1 by omega) with z | z <;> rw [z]
      · exact ⟨[], rfl, by simp⟩
      · exact ⟨as, rfl, has⟩
    refine ⟨.p (.list [.list (enI []), .list (enI as')]), none, [], as', ?_, by simp, by simp, by omega⟩
    have hsn := snap2 (snap_mI ps) (snap_mI as)
    have h1 : atI [PyData.list (enI ps), .list (enI as)] 1 = some (.list (enI as)) := rfl
    rw [stepS (e := [some bk, some (.p (.list (enI picks))), some (.p (.int at')), some (.p (.list [.list (enI []), .list (enI as')])), some (.p (.int side)), some (.p (.int k)), some (.p (.int form)), none, none]) (by
      simp [c, hsn, h1, L0, L2', hp4, f2, has', show enI [] = [] from rfl])]
    rw [stepS (E0 _ _ rfl (by omega) _)]
  all_goals
    rw [stepS (E0 _ _ rfl (by omega) _)]
  · obtain ⟨mr, hmr⟩ : ∃ mr : List Int, mr = ((List.range 39).map fun (k : Nat) => 60 + (k : Int)).filter fun x => !decide (x ∈ ps) := ⟨_, rfl⟩
    have hml : mr.length ≤ 39 := by
      rw [hmr]
      refine Nat.le_trans (List.length_filter_le _ _) (by simp)
    have h00 : atI [mI ps, mI as] 0 = some (mI ps) := rfl
    have hsm : smallI 60 ∧ smallI 99 := by unfold smallI; omega
    have hr : rangeD 60 99 = enI ((List.range 39).map fun (k : Nat) => 60 + (k : Int)) := rangeD_enI 60 99
    have l1 : lcRun (gNm 8) (bOp notInT (mVar 8) (mOp idxT (mVar 3) (mC (.int 0)))) (mVar 8) [some bk, some (.p (.list (enI picks))), some (.p (.int at')), some (.ml [mI ps, mI as]), some (.p (.int side)), some (.p (.int k)), some (.p (.int form)), none, none] (enI ((List.range 39).map fun (k : Nat) => 60 + (k : Int))) = some (enI mr) := by
      rw [hmr]
      exact lc_filter (fun x => !decide (x ∈ ps)) _ fun x hx => ⟨_, rfl, by simp [h00, notIn_m], fun _ => by simp⟩
    obtain ⟨hi, hhi, hi0⟩ : ∃ hi : Int, 13 - p4 % 2 = hi ∧ 0 ≤ hi := ⟨_, rfl, by omega⟩
    have hcut : cutL (enI (ps ++ mr)) none (some hi) = enI ((ps ++ mr).take hi.toNat) := by
      rw [cut_to _ _ hi0]; simp [enI, List.map_take]
    have hz : mr.length ≤ LIM := by unfold LIM; omega
    have hadd := add_mI ps mr (by unfold LIM; omega)
    refine ⟨.ml [.p (.list (enI ((ps ++ mr).take hi.toNat))), mI as], some (.p (.list (enI mr))), (ps ++ mr).take hi.toNat, as, ?_, snap2 (by simp) (snap_mI _), by rw [List.length_take, List.length_append]; omega, by omega⟩
    have hif : sIf (bOp M.eqT (mVar 6) (mC (.int 7))) (sCons (sSet 7 (mLc (iRng2 (mC (.int 60)) (mC (.int 99))) [8] (gNm 8) (bOp notInT (mVar 8) (mOp idxT (mVar 3) (mC (.int 0)))) (mVar 8))) (sSetIx (pVar 3) (mC (.int 0)) (mSlice (mOp addT (mOp idxT (mVar 3) (mC (.int 0))) (mVar 7)) (oNone) (oSome (mOp subT (mC (.int 13)) (mOp modT (mOp idxT (mVar 1) (mC (.int 4))) (mC (.int 2)))))))) sNil [some bk, some (.p (.list (enI picks))), some (.p (.int at')), some (.ml [mI ps, mI as]), some (.p (.int side)), some (.p (.int k)), some (.p (.int form)), none, none]
        = some (.nx [some bk, some (.p (.list (enI picks))), some (.p (.int at')), some (.ml [.p (.list (enI ((ps ++ mr).take hi.toNat))), mI as]), some (.p (.int side)), some (.p (.int k)), some (.p (.int form)), some (.p (.list (enI mr))), none]) := by
      rw [ev_sIf, show bOp M.eqT (mVar 6) (mC (.int 7)) [some bk, some (.p (.list (enI picks))), some (.p (.int at')), some (.ml [mI ps, mI as]), some (.p (.int side)), some (.p (.int k)), some (.p (.int form)), none, none] = some true by simp [c]]
      rw [Option.bind_some, if_pos rfl]
      rw [stepS (e := [some bk, some (.p (.list (enI picks))), some (.p (.int at')), some (.ml [mI ps, mI as]), some (.p (.int side)), some (.p (.int k)), some (.p (.int form)), some (.p (.list (enI mr))), none]) (by
        simp [hsm, hr, l1, enI_length, hz])]
      simp [h00, hadd, hp4, f2, hhi, hcut, ix20, setN]
    rw [stepS hif]
  · refine ⟨.ml [mI ps, mI as], none, ps, as, ?_, snap2 (snap_mI _) (snap_mI _), by omega, by omega⟩
    rw [stepS (E0 _ _ rfl (by omega) _)]

theorem spoilt4 (bk : List Buy) (picks : List Int) (hb1 : 1 ≤ bk.length) (hb12 : bk.length ≤ 16) (hbl : ∀ b ∈ bk, (1 ≤ b.1.length ∧ b.1.length ≤ 12) ∧ (1 ≤ b.2.length ∧ b.2.length ≤ 12)) (hpl : picks.length = 5) :
    ∃ sp : List Buy, callT Q.law_spoilt_4 [.p (enBk bk), .p (.list (enI picks))] = some (.p (enBk sp)) ∧ Sane sp := by
  obtain ⟨p0, _, e0⟩ := atI_ex (xs := picks) (i := 0) (by decide) (by omega)
  obtain ⟨p1, _, e1⟩ := atI_ex (xs := picks) (i := 1) (by decide) (by omega)
  obtain ⟨p2, _, e2⟩ := atI_ex (xs := picks) (i := 2) (by decide) (by omega)
  obtain ⟨p3, _, e3⟩ := atI_ex (xs := picks) (i := 3) (by decide) (by omega)
  obtain ⟨p4, _, e4⟩ := atI_ex (xs := picks) (i := 4) (by decide) (by omega)
  obtain ⟨L, hL⟩ : ∃ L : Int, (bk.length : Int) = L := ⟨_, rfl⟩
  have hL0 : L ≠ 0 := by omega
  have fL : ∀ x : Int, x.fmod L = x % L := fun x => fmod_pos (by omega)
  have at0 := Int.emod_nonneg p0 hL0
  have at1 := Int.emod_lt_of_pos p0 (show 0 < L by omega)
  obtain ⟨at', hat⟩ : ∃ a, p0 % L = a := ⟨_, rfl⟩
  rw [hat] at at0 at1
  have f2 : ∀ x : Int, x.fmod 2 = x % 2 := fun x => fmod_pos (by decide)
  have f3 : ∀ x : Int, x.fmod 3 = x % 3 := fun x => fmod_pos (by decide)
  have f10 : ∀ x : Int, x.fmod 10 = x % 10 := fun x => fmod_pos (by decide)
  obtain ⟨b, hbm, hba, hbi⟩ := at_bkT (bk := bk) (i := at') at0 (by omega)
  have L1 : 1 ≤ LIM := by decide
  have L2' : 2 ≤ LIM := by decide
  have L3 : 3 ≤ LIM := by decide
  have hb := hbl b hbm
  obtain ⟨ps, as⟩ := b
  simp only at hb
  have key : ∃ t, Q.law_spoilt_4 [.p (enBk bk), .p (.list (enI picks))] = some t ∧ ∃ sp, t = .p (enBk sp) ∧ Sane sp := by
    unfold Q.law_spoilt_4
    refine run_ex ?_
    rw [show startE 9 [.p (enBk bk), .p (.list (enI picks))] = [some (.p (enBk bk)), some (.p (.list (enI picks))), none, none, none, none, none, none, none] from rfl]
    refine oxE [some (.ml (bk.map fun b => T.p (enB b))), some (.p (.list (enI picks))), none, none, none, none, none, none, none] (by simp [enBk]) ?_
    refine oxE [some (.ml (bk.map fun b => T.p (enB b))), some (.p (.list (enI picks))), some (.p (.int at')), none, none, none, none, none, none] (by simp [e0, hL, hL0, fL, hat]) ?_
    refine oxE [some (.ml (bk.map fun b => T.p (enB b))), some (.p (.list (enI picks))), some (.p (.int at')), some (.ml [mI ps, mI as]), none, none, none, none, none] (by simp [hba, show enB (ps, as) = .tuple [.tuple (enI ps), .tuple (enI as)] from rfl, lcRunT, mI, L2']) ?_
    obtain ⟨side, hsd, hs01⟩ : ∃ s, p1 % 2 = s ∧ (s = 0 ∨ s = 1) := ⟨_, rfl, by omega⟩
    refine oxE [some (.ml (bk.map fun b => T.p (enB b))), some (.p (.list (enI picks))), some (.p (.int at')), some (.ml [mI ps, mI as]), some (.p (.int side)), none, none, none, none] (by simp [e1, f2, hsd]) ?_
    obtain ⟨lk, hlk, hlk0⟩ : ∃ lk : Int, (if side = 0 then (ps.length : Int) else (as.length : Int)) = lk ∧ 0 < lk := ⟨_, rfl, by split <;> omega⟩
    have hlen : ((atI [mI ps, mI as] side).bind fun x => lenT [x]) = some (.p (.int lk)) := by
      rcases hs01 with z | z
      · subst z
        rw [if_pos rfl] at hlk
        rw [← hlk]
        exact len_mI ps
      · subst z
        rw [if_neg (by decide)] at hlk
        rw [← hlk]
        exact len_mI as
    have k0 := Int.emod_nonneg p2 (show lk ≠ 0 by omega)
    have k1 := Int.emod_lt_of_pos p2 hlk0
    obtain ⟨k, hk⟩ : ∃ k, p2 % lk = k := ⟨_, rfl⟩
    rw [hk] at k0 k1
    have hlk' : lk ≠ 0 := by omega
    refine oxE [some (.ml (bk.map fun b => T.p (enB b))), some (.p (.list (enI picks))), some (.p (.int at')), some (.ml [mI ps, mI as]), some (.p (.int side)), some (.p (.int k)), none, none, none] (by
      have : ((atI [mI ps, mI as] side).bind fun x => some [x]).bind lenT = some (.p (.int lk)) := by
        rw [← hlen]; cases atI [mI ps, mI as] side <;> rfl
      simp [e2, this, hlk', fmod_pos hlk0, hk]) ?_
    obtain ⟨form, hf, hf0, hf11⟩ : ∃ f, p3 % 10 = f ∧ 0 ≤ f ∧ f < 10 := ⟨_, rfl, by omega, by omega⟩
    refine oxE [some (.ml (bk.map fun b => T.p (enB b))), some (.p (.list (enI picks))), some (.p (.int at')), some (.ml [mI ps, mI as]), some (.p (.int side)), some (.p (.int k)), some (.p (.int form)), none, none] (by simp [e3, f10, hf]) ?_
    obtain ⟨t, o7, qs, rs, he, s0, hq, hr⟩ := spoilt4_sides (.ml (bk.map fun b => T.p (enB b))) picks at' ps as side k form p4 e4 hs01 k0 (by
      rw [← hlk] at k1
      split at k1 <;> simp_all) hf0 hf11 hb.1.2 hb.2.2
      (sFrz 3 (sCons (sSetIx (pVar 0) (mVar 2) (mTup (aCons (mCall tupleT (aCons (mOp idxT (mVar 3) (mC (.int 0))) (aNil))) (aCons (mCall tupleT (aCons (mOp idxT (mVar 3) (mC (.int 1))) (aNil))) (aNil))))) (sFrz 0 (sCons (sIf (bOp gtT (mVar 6) (mC (.int 7))) (sSet 0 (mSlice (mOp mulT (mVar 0) (mC (.int 17))) (oNone) (oSome (mOp idxT (mLst (aCons (mC (.int 0)) (aCons (mC (.int 16)) (aCons (mC (.int 17)) (aNil))))) (mOp modT (mOp idxT (mVar 1) (mC (.int 4))) (mC (.int 3))))))) (sNil)) (sRetV 0)))))
    rw [he]
    clear he
    have hfz : ∀ m : SM, sFrz 3 m [some (.ml (bk.map fun b => T.p (enB b))), some (.p (.list (enI picks))), some (.p (.int at')), some t, some (.p (.int side)), some (.p (.int k)), some (.p (.int form)), o7, none] = m [some (.ml (bk.map fun b => T.p (enB b))), some (.p (.list (enI picks))), some (.p (.int at')), some (.p (.list [.list (enI qs), .list (enI rs)])), some (.p (.int side)), some (.p (.int k)), some (.p (.int form)), o7, none] := by
      intro m
      simp [s0]
    rw [hfz]
    have hix : ixN (bk.map fun b => T.p (enB b)).length at' = some at'.toNat := ixN_of at0 (by simp only [List.length_map]; omega)
    have a0 : atI [PyData.list (enI qs), .list (enI rs)] 0 = some (.list (enI qs)) := rfl
    have a1 : atI [PyData.list (enI qs), .list (enI rs)] 1 = some (.list (enI rs)) := rfl
    refine oxE [some (.ml ((bk.set at'.toNat (qs, rs)).map fun b => T.p (enB b))), some (.p (.list (enI picks))), some (.p (.int at')), some (.p (.list [.list (enI qs), .list (enI rs)])), some (.p (.int side)), some (.p (.int k)), some (.p (.int form)), o7, none] (by
      simp [-List.length_map, a0, a1, L2', setN, hix, List.map_set, show enB (qs, rs) = .tuple [.tuple (enI qs), .tuple (enI rs)] from rfl]) ?_
    obtain ⟨bk', hbk', hbl', hsz'⟩ : ∃ bk' : List Buy, bk.set at'.toNat (qs, rs) = bk' ∧ bk'.length = bk.length ∧ ∀ b ∈ bk', b.1.length ≤ 1000 ∧ b.2.length ≤ 1000 := ⟨_, rfl, by simp, fun b hb => by
      rcases List.mem_or_eq_of_mem_set hb with z | z
      · have := hbl b z; omega
      · subst z; simp only; omega⟩
    rw [hbk']
    have hfz2 : ∀ m : SM, sFrz 0 m [some (.ml (bk'.map fun b => T.p (enB b))), some (.p (.list (enI picks))), some (.p (.int at')), some (.p (.list [.list (enI qs), .list (enI rs)])), some (.p (.int side)), some (.p (.int k)), some (.p (.int form)), o7, none] = m [some (.p (enBk bk')), some (.p (.list (enI picks))), some (.p (.int at')), some (.p (.list [.list (enI qs), .list (enI rs)])), some (.p (.int side)), some (.p (.int k)), some (.p (.int form)), o7, none] := by
      intro m
      simp [snap_bk]
    rw [hfz2]
    refine oxS (fun E => ∃ sp : List Buy, E = [some (.p (enBk sp)), some (.p (.list (enI picks))), some (.p (.int at')), some (.p (.list [.list (enI qs), .list (enI rs)])), some (.p (.int side)), some (.p (.int k)), some (.p (.int form)), o7, none] ∧ Sane sp) ?_ ?_
    · by_cases c : 7 < form
      · obtain ⟨v, hv, hv0, hv13⟩ : ∃ v : Int, atI [PyData.int 0, .int 16, .int 17] (p4 % 3) = some (.int v) ∧ 0 ≤ v ∧ v ≤ 17 := by
          rcases (show p4 % 3 = 0 ∨ p4 % 3 = 1 ∨ p4 % 3 = 2 by omega) with z | z | z <;> rw [z]
          · exact ⟨0, rfl, by decide, by decide⟩
          · exact ⟨16, rfl, by decide, by decide⟩
          · exact ⟨17, rfl, by decide, by decide⟩
        have hm : bk'.length * 17 ≤ LIM := by unfold LIM; omega
        refine ⟨[some (.p (enBk (((List.replicate 17 bk').flatten).take v.toNat))), some (.p (.list (enI picks))), some (.p (.int at')), some (.p (.list [.list (enI qs), .list (enI rs)])), some (.p (.int side)), some (.p (.int k)), some (.p (.int form)), o7, none], ?_, _, rfl, ?_, ?_⟩
        · have h13 : (17 : Int).toNat = 17 := rfl
          have hfl : ∀ n, (List.replicate n (bk'.map enB)).flatten = ((List.replicate n bk').flatten).map enB := fun n => flat_map enB n bk'
          simp only [ev_sIf, ev_bOp, ev_mVar, ev_mC, ev_sSet, ev_mSlice, ev_mOp]
          simp [c, e4, f3, L3, hv, enBk, hm, h13, hfl, cutL_enB, cut_to _ v hv0]
        · simp only [List.length_take]; omega
        · intro b hb
          have := List.mem_of_mem_take hb
          simp only [List.mem_flatten, List.mem_replicate] at this
          obtain ⟨l, ⟨_, rfl⟩, hm'⟩ := this
          exact hsz' b hm'
      · exact ⟨_, by simp [c] <;> rfl, bk', rfl, by omega, hsz'⟩
    rintro _ ⟨sp, rfl, hsp⟩
    exact ⟨_, rfl, _, rfl, sp, rfl, hsp⟩
  obtain ⟨t, ht, sp, rfl, hsp⟩ := key
  exact ⟨sp, callT_p rfl ht, hsp⟩

theorem k23_true (ns : List Int) : Q.k23_law [.sc ns] = some (.p (.bool true)) := by
  obtain ⟨bk, hbk, hv1, hlen, hgood⟩ := a_log ns 0 16 (by decide) (by decide) (by decide)
  have hg : ∀ b ∈ bk, (1 ≤ b.1.length ∧ b.1.length ≤ 12) ∧ (1 ≤ b.2.length ∧ b.2.length ≤ 12) := fun b hb => by
    have h := hgood b hb
    exact ⟨⟨h.o1, h.o12⟩, h.t1, h.t12⟩
  have hsane : Sane bk := ⟨by omega, fun b hb => by have := hg b hb; omega⟩
  unfold Q.k23_law
  refine run_of ?_
  rw [show startE 6 [T.sc ns] = [some (.sc ns), none, none, none, none, none] from rfl]
  refine oxE [some (.sc ns), some (.p (enBk bk)), none, none, none, none] (by simp [hbk]) ?_
  have hcells : ∃ cs : List Int, (PyData.int 0 :: cutL (ns.map PyData.int) (some 2) (some 18)) = cs.map PyData.int ∧ cs.length ≤ 17 := by
    refine ⟨0 :: cutL ns (some 2) (some 18), ?_, ?_⟩
    · simp [cutL, List.map_take, List.map_drop]
    · rw [cut_ft _ _ _ (by decide) (by decide)]
      simp only [List.length_cons, List.length_take]
      have : (18 : Int).toNat - (2 : Int).toNat = 16 := by decide
      omega
  obtain ⟨cs, hcs, hcl⟩ := hcells
  have hstep := forRun_search (g := gNm 2) (mb := Q.k23_law_L1) PyData.int (fun _ => true) (.p (.bool false)) (fun e => ∃ a b c d, e = [some (.sc ns), some (.p (enBk bk)), a, b, c, d]) cs [some (.sc ns), some (.p (enBk bk)), none, none, none, none] ⟨_, _, _, _, rfl⟩ (by
    rintro x hx _ ⟨a, b, c, d, rfl⟩
    refine ⟨_, rfl, fun _ => ?_, fun z => (nomatch z)⟩
    obtain ⟨picks, hp, hpl, _⟩ := c_draws (x + 1) 5 1000 (by decide) (by decide) (by decide) (by decide)
    obtain ⟨sp, hsp, hss⟩ := spoilt4 bk picks hv1 (by omega) hg hpl
    have key : ∃ o, Q.k23_law_L1 [some (.sc ns), some (.p (enBk bk)), some (.p (.int x)), b, c, d] = some o ∧ ∃ e2, o = .nx e2 ∧ ∃ a b c d, e2 = [some (.sc ns), some (.p (enBk bk)), a, b, c, d] := by
      unfold Q.k23_law_L1
      refine oxE [some (.sc ns), some (.p (enBk bk)), some (.p (.int x)), some (.p (enBk sp)), c, d] (by simp [hp, hsp]) ?_
      refine oxS (fun E => ∃ sp, E = [some (.sc ns), some (.p (enBk bk)), some (.p (.int x)), some (.p (enBk sp)), c, d] ∧ Sane sp) ?_ ?_
      · by_cases z : x = 0
        · exact ⟨[some (.sc ns), some (.p (enBk bk)), some (.p (.int x)), some (.p (enBk bk)), c, d], by simp [z, enBk], bk, rfl, hsane⟩
        · exact ⟨_, by simp [z] <;> rfl, sp, rfl, hss⟩
      rintro _ ⟨sp, rfl, hss⟩
      refine oxE [some (.sc ns), some (.p (enBk bk)), some (.p (.int x)), some (.p (enBk sp)), some (.p (enBk sp)), d] (by simp [enBk]) ?_
      refine oxE [some (.sc ns), some (.p (enBk bk)), some (.p (.int x)), some (.p (enBk sp)), some (.p (enBk sp)), some (.p (.bool (isLog sp)))] (by simp [is_log sp hss]) ?_
      refine ⟨.nx [some (.sc ns), some (.p (enBk bk)), some (.p (.int x)), some (.p (enBk sp)), some (.p (enBk sp)), some (.p (.bool (isLog sp)))], by simp [isi_bool, law_due3 sp hss, refl_bk], _, rfl, _, _, _, _, rfl⟩
    obtain ⟨o, ho, e2, rfl, hP⟩ := key
    exact ⟨e2, .inl ho, hP⟩)
  obtain ⟨e, he, _⟩ := hstep.1 (by simp)
  refine oxE e ?_ ⟨_, rfl, rfl⟩
  have hq : cs.length ≤ LIM := by unfold LIM; omega
  have hl : (cutL (ns.map PyData.int) (some 2) (some 18)).length + 1 = cs.length := by
    have := congrArg List.length hcs
    simpa using this
  have L1 : 1 ≤ LIM := by decide
  have hl2 : 1 + (cutL (ns.map PyData.int) (some 2) (some 18)).length ≤ LIM := by omega
  simp [L1, hl2, hcs, he]
end B
namespace W
open PySem PySem.Spec PyProof.Rows L2 M
def topS (i : Nat) : Stmt := PySem.Challenge.pw_onewish_k23_what_is_a_log.main.body.getD i (.Pass ⟨0, 0, 0, 0⟩)
abbrev s_are_unlike : Stmt := topS 4
abbrev s_is_choosing : Stmt := topS 5
abbrev s_is_log : Stmt := topS 6
abbrev s__law_cell_at : Stmt := topS 8
abbrev s__law_draws : Stmt := topS 9
abbrev s__law_mixed : Stmt := topS 10
abbrev s__law_a_log : Stmt := topS 11
abbrev s__law_spoilt : Stmt := topS 12
abbrev s__law_due : Stmt := topS 13
abbrev s_law : Stmt := topS 14
abbrev N_are_unlike : List Str := ["things", "one"]
theorem sc_are_unlike : FnScope N_are_unlike ["things"] (defScope s_are_unlike) := ⟨rfl, rfl, rfl, by decide +kernel, rfl, by decide +kernel, by decide +kernel⟩
abbrev N_is_choosing : List Str := ["offers", "taken", "one"]
theorem sc_is_choosing : FnScope N_is_choosing ["offers", "taken"] (defScope s_is_choosing) := ⟨rfl, rfl, rfl, by decide +kernel, rfl, by decide +kernel, by decide +kernel⟩
abbrev N_is_log : List Str := ["thing", "offers", "taken"]
theorem sc_is_log : FnScope N_is_log ["thing"] (defScope s_is_log) := ⟨rfl, rfl, rfl, by decide +kernel, rfl, by decide +kernel, by decide +kernel⟩
abbrev N__law_cell_at : List Str := ["script", "k"]
theorem sc__law_cell_at : FnScope N__law_cell_at ["script", "k"] (defScope s__law_cell_at) := ⟨rfl, rfl, rfl, by decide +kernel, rfl, by decide +kernel, by decide +kernel⟩
abbrev N__law_draws : List Str := ["cell", "many", "base", "found", "rest", "stirred", "k"]
theorem sc__law_draws : FnScope N__law_draws ["cell", "many", "base"] (defScope s__law_draws) := ⟨rfl, rfl, rfl, by decide +kernel, rfl, by decide +kernel, by decide +kernel⟩
abbrev N__law_mixed : List Str := ["row", "picks", "found", "k", "one"]
theorem sc__law_mixed : FnScope N__law_mixed ["row", "picks"] (defScope s__law_mixed) := ⟨rfl, rfl, rfl, by decide +kernel, rfl, by decide +kernel, by decide +kernel⟩
abbrev N__law_a_log : List Str := ["script", "at", "most", "heads", "many", "things", "more", "pick", "one", "log", "k", "picks", "first", "some", "offers", "by", "levels", "best", "taken", "j"]
theorem sc__law_a_log : FnScope N__law_a_log ["script", "at", "most"] (defScope s__law_a_log) := ⟨rfl, rfl, rfl, by decide +kernel, rfl, by decide +kernel, by decide +kernel⟩
abbrev N__law_spoilt : List Str := ["log", "picks", "at", "sides", "side", "k", "form", "more", "one"]
theorem sc__law_spoilt : FnScope N__law_spoilt ["log", "picks"] (defScope s__law_spoilt) := ⟨rfl, rfl, rfl, by decide +kernel, rfl, by decide +kernel, by decide +kernel⟩
abbrev N__law_due : List Str := ["log", "offers", "taken", "some", "one"]
theorem sc__law_due : FnScope N__law_due ["log"] (defScope s__law_due) := ⟨rfl, rfl, rfl, by decide +kernel, rfl, by decide +kernel, by decide +kernel⟩
abbrev N_law : List Str := ["script", "log", "cell", "some", "handed", "found"]
theorem sc_law : FnScope N_law ["script"] (defScope s_law) := ⟨rfl, rfl, rfl, by decide +kernel, rfl, by decide +kernel, by decide +kernel⟩
structure Tx (K : PySem.W.Frag) (mg : Str → Option Value) where
  a_are_unlike : Addr
  d_are_unlike : FuncData
  a_is_choosing : Addr
  d_is_choosing : FuncData
  a_is_log : Addr
  d_is_log : FuncData
  a__law_cell_at : Addr
  d__law_cell_at : FuncData
  a__law_draws : Addr
  d__law_draws : FuncData
  a__law_mixed : Addr
  d__law_mixed : FuncData
  a__law_a_log : Addr
  d__law_a_log : FuncData
  a__law_spoilt : Addr
  d__law_spoilt : FuncData
  a__law_due : Addr
  d__law_due : FuncData
  a_law : Addr
  d_law : FuncData
  F_are_unlike : Fun K "are_unlike" "are_unlike" s_are_unlike a_are_unlike d_are_unlike
  b_are_unlike : Binds K d_are_unlike ["things"] []
  g_are_unlike : mg "are_unlike" = some (.ref a_are_unlike)
  F_is_choosing : Fun K "is_choosing" "is_choosing" s_is_choosing a_is_choosing d_is_choosing
  b_is_choosing : Binds K d_is_choosing ["offers", "taken"] []
  g_is_choosing : mg "is_choosing" = some (.ref a_is_choosing)
  F_is_log : Fun K "is_log" "is_log" s_is_log a_is_log d_is_log
  b_is_log : Binds K d_is_log ["thing"] []
  g_is_log : mg "is_log" = some (.ref a_is_log)
  F__law_cell_at : Fun K "_law_cell_at" "_law_cell_at" s__law_cell_at a__law_cell_at d__law_cell_at
  b__law_cell_at : Binds K d__law_cell_at ["script", "k"] []
  g__law_cell_at : mg "_law_cell_at" = some (.ref a__law_cell_at)
  F__law_draws : Fun K "_law_draws" "_law_draws" s__law_draws a__law_draws d__law_draws
  b__law_draws : Binds K d__law_draws ["cell", "many", "base"] []
  g__law_draws : mg "_law_draws" = some (.ref a__law_draws)
  F__law_mixed : Fun K "_law_mixed" "_law_mixed" s__law_mixed a__law_mixed d__law_mixed
  b__law_mixed : Binds K d__law_mixed ["row", "picks"] []
  g__law_mixed : mg "_law_mixed" = some (.ref a__law_mixed)
  F__law_a_log : Fun K "_law_a_log" "_law_a_log" s__law_a_log a__law_a_log d__law_a_log
  b__law_a_log : Binds K d__law_a_log ["script", "at", "most"] []
  g__law_a_log : mg "_law_a_log" = some (.ref a__law_a_log)
  F__law_spoilt : Fun K "_law_spoilt" "_law_spoilt" s__law_spoilt a__law_spoilt d__law_spoilt
  b__law_spoilt : Binds K d__law_spoilt ["log", "picks"] []
  g__law_spoilt : mg "_law_spoilt" = some (.ref a__law_spoilt)
  F__law_due : Fun K "_law_due" "_law_due" s__law_due a__law_due d__law_due
  b__law_due : Binds K d__law_due ["log"] []
  g__law_due : mg "_law_due" = some (.ref a__law_due)
  F_law : Fun K "law" "law" s_law a_law d_law
  b_law : Binds K d_law ["script"] []
  g_law : mg "law" = some (.ref a_law)
  z_all : mg "all" = none
  z_bool : mg "bool" = none
  z_enumerate : mg "enumerate" = none
  z_int : mg "int" = none
  z_isinstance : mg "isinstance" = none
  z_len : mg "len" = none
  z_list : mg "list" = none
  z_max : mg "max" = none
  z_min : mg "min" = none
  z_range : mg "range" = none
  z_set : mg "set" = none
  z_tuple : mg "tuple" = none
  t_MOST_THINGS : Tok
  c_MOST_THINGS : mg "MOST_THINGS" = some (.int 100 t_MOST_THINGS)
  t_MOST_OFFERS : Tok
  c_MOST_OFFERS : mg "MOST_OFFERS" = some (.int 12 t_MOST_OFFERS)
  t_MOST_CHOOSINGS : Tok
  c_MOST_CHOOSINGS : mg "MOST_CHOOSINGS" = some (.int 16 t_MOST_CHOOSINGS)
section
variable {P : Program} {w : World} {K : PySem.W.Frag} {mg : Str → Option Value} {base : Heap}
set_option maxHeartbeats 4000000 in
theorem ok_are_unlike (X : Tx K mg) : FnOk P w K mg base CX0 1 X.a_are_unlike X.d_are_unlike ["things"] (spT K 1 Q.are_unlike) := by
  have nd : (N_are_unlike).Nodup := sc_are_unlike.nd
  exact fn_ok (k := 0) (N := N_are_unlike) X.F_are_unlike sc_are_unlike fun cdv A outer s H E hr =>
    psm_one (psm_ret (pm_and (pm_cmp op_gt r2m_gt (pm_callB call_lenA cm_len (by rfl) X.z_len bt_len (pam_cons (pm_var 0) (pam_nil))) (pm_int) (nomark _)) (pm_and (pm_cmp (op_eqD hr.units) r2m_eq (pm_lenSet (by rfl) X.z_len (by rfl) X.z_set rfl (pm_var 0)) (pm_callB call_lenA cm_len (by rfl) X.z_len bt_len (pam_cons (pm_var 0) (pam_nil))) (nomark _)) (pm_one (pm_callB (cr_all rfl) cm_all (by rfl) X.z_all bt_all (pam_cons (pm_lc (own := [("one", 1)]) rfl nd (pim_seqB (pm_var 0)) (blkOk_by (by rfl)) (fun _ _ _ _ _ => gm_name (i := 1) nd) (fun _ _ _ _ _ => ptsm_nil) (fun _ _ _ _ _ => pm_chain op_le r2m_le op_lt r2m_lt (pm_int) (pm_var 1) (pm_globInt (by rfl) X.c_MOST_THINGS))) (pam_nil)))))))
set_option maxHeartbeats 4000000 in
theorem ok_is_choosing (X : Tx K mg) : FnOk P w K mg base CX0 2 X.a_is_choosing X.d_is_choosing ["offers", "taken"] (spT K 2 Q.is_choosing) := by
  have nd : (N_is_choosing).Nodup := sc_is_choosing.nd
  exact fn_ok (k := 1) (N := N_is_choosing) X.F_is_choosing sc_is_choosing fun cdv A outer s H E hr =>
    psm_cons (psm_if (ptm_w (pwm_or (ptm_not (ptm_val (pm_call (ok_are_unlike X) (hr.mono (by decide)) (by rfl) X.g_are_unlike X.F_are_unlike.kp X.b_are_unlike (pam_cons (pm_var 0) (pam_nil)) len1))) (pwm_or (ptm_not (ptm_val (pm_call (ok_are_unlike X) (hr.mono (by decide)) (by rfl) X.g_are_unlike X.F_are_unlike.kp X.b_are_unlike (pam_cons (pm_var 1) (pam_nil)) len1))) (pwm_or1 (ptm_cmp op_gt r2m_gt (pm_callB call_lenA cm_len (by rfl) X.z_len bt_len (pam_cons (pm_var 0) (pam_nil))) (pm_globInt (by rfl) X.c_MOST_OFFERS) (nomark _)))))) (psm_one (psm_ret (pm_bl))) (psm_nil))
      (psm_one (psm_ret (pm_callB (cr_all rfl) cm_all (by rfl) X.z_all bt_all (pam_cons (pm_lc (own := [("one", 2)]) rfl nd (pim_seqB (pm_var 1)) (blkOk_by (by rfl)) (fun _ _ _ _ _ => gm_name (i := 2) nd) (fun _ _ _ _ _ => ptsm_nil) (fun _ _ _ _ _ => pm_cmp op_in_seq r2m_in (pm_var 2) (pm_var 0) rfl)) (pam_nil)))))
set_option maxHeartbeats 4000000 in
theorem ok_is_log (X : Tx K mg) : FnOk P w K mg base CX0 3 X.a_is_log X.d_is_log ["thing"] (spT K 1 Q.is_log) := by
  have nd : (N_is_log).Nodup := sc_is_log.nd
  exact fn_ok (k := 2) (N := N_is_log) X.F_is_log sc_is_log fun cdv A outer s H E hr =>
    psm_one (psm_ret (pm_and (pm_chain op_le r2m_le op_le r2m_le (pm_int) (pm_callB call_lenA cm_len (by rfl) X.z_len bt_len (pam_cons (pm_var 0) (pam_nil))) (pm_globInt (by rfl) X.c_MOST_CHOOSINGS)) (pm_one (pm_callB (cr_all rfl) cm_all (by rfl) X.z_all bt_all (pam_cons (pm_lc (own := [("offers", 1), ("taken", 2)]) rfl nd (pim_seqB (pm_var 0)) (blkOk_by (by rfl)) (fun _ _ _ _ _ => gm_tup rfl (gsm_cons (gm_name (i := 1) nd) (gsm_cons (gm_name (i := 2) nd) (gsm_nil))) (gl_cons (gl_cons gl_nil))) (fun _ _ _ _ _ => ptsm_nil) (fun _ _ _ _ _ => pm_call (ok_is_choosing X) (hr.mono (by decide)) (by rfl) X.g_is_choosing X.F_is_choosing.kp X.b_is_choosing (pam_cons (pm_var 1) (pam_cons (pm_var 2) (pam_nil))) (lenS len1))) (pam_nil))))))
set_option maxHeartbeats 4000000 in
theorem ok__law_cell_at (X : Tx K mg) : FnOk P w K mg base CX0 1 X.a__law_cell_at X.d__law_cell_at ["script", "k"] (spT K 2 Q.law_cell_at) := by
  have nd : (N__law_cell_at).Nodup := sc__law_cell_at.nd
  exact fn_ok (k := 0) (N := N__law_cell_at) X.F__law_cell_at sc__law_cell_at fun cdv A outer s H E hr =>
    psm_cons (psm_if (ptm_cmp op_lt r2m_lt (pm_var 1) (pm_callB call_lenA cm_len (by rfl) X.z_len bt_len (pam_cons (pm_var 0) (pam_nil))) (nomark _)) (psm_one (psm_ret (pm_ix ix_seq r2m_ix (pm_var 0) (pm_var 1) (fun _ _ => rfl)))) (psm_nil))
      (psm_one (psm_ret (pm_int)))
set_option maxHeartbeats 4000000 in
theorem ok__law_draws (X : Tx K mg) : FnOk P w K mg base CX0 1 X.a__law_draws X.d__law_draws ["cell", "many", "base"] (spT K 3 Q.law_draws) := by
  have nd : (N__law_draws).Nodup := sc__law_draws.nd
  exact fn_ok (k := 0) (N := N__law_draws) X.F__law_draws sc__law_draws fun cdv A outer s H E hr =>
    psm_cons (psm_setF (i := 3) nd (pf_lst (paf_nil)))
      (psm_cons (psm_set (i := 4) nd (pm_op op_mulA r2m_mul (pm_var 0) (pm_callTy call_intA cm_int (by rfl) X.z_int bt_int (pam_cons (pm_cmp op_ge r2m_ge (pm_var 0) (pm_op op_pow r2m_pow (pm_int) (pm_int)) (nomark _)) (pam_nil)))))
      (psm_cons (psm_set (i := 5) nd (pm_op op_modN r2m_mod (pm_var 0) (pm_int)))
      (psm_cons (psm_for PassesOwn.never rfl (pim_range1 (fz := true) (by rfl) X.z_range (pm_op op_addA r2m_add (pm_var 1) (pm_int))) (gm_name (i := 6) nd) (psm_cons (psm_set (i := 5) nd (pm_op op_modN r2m_mod (pm_op op_addA r2m_add (pm_op op_addA r2m_add (pm_op op_addA r2m_add (pm_op op_mulA r2m_mul (pm_var 5) (pm_var 5)) (pm_op op_mulA r2m_mul (pm_int) (pm_var 5))) (pm_var 6)) (pm_int)) (pm_int)))
      (psm_one (psm_if (ptm_w (pwm_and (ptm_cmp op_gt r2m_gt (pm_var 6) (pm_int) (nomark _)) (pwm_and1 (ptm_cmp op_gt r2m_gt (pm_var 4) (pm_int) (nomark _))))) (psm_cons (psm_append (pp_var 3) (pm_op op_modN r2m_mod (pm_var 4) (pm_var 2)))
      (psm_one (psm_set (i := 4) nd (pm_op op_fdivB r2m_fdiv (pm_var 4) (pm_var 2))))) (psm_one (psm_if (ptm_cmp op_gt r2m_gt (pm_var 6) (pm_int) (nomark _)) (psm_one (psm_append (pp_var 3) (pm_op op_modN r2m_mod (pm_op op_fdivB r2m_fdiv (pm_var 5) (pm_int)) (pm_var 2)))) (psm_nil)))))))
      (psm_one (psm_retV 3)))))
set_option maxHeartbeats 4000000 in
theorem ok__law_mixed (X : Tx K mg) : FnOk P w K mg base CX0 1 X.a__law_mixed X.d__law_mixed ["row", "picks"] (spT K 2 Q.law_mixed) := by
  have nd : (N__law_mixed).Nodup := sc__law_mixed.nd
  exact fn_ok (k := 0) (N := N__law_mixed) X.F__law_mixed sc__law_mixed fun cdv A outer s H E hr =>
    psm_cons (psm_setF (i := 2) nd (pf_lst (paf_nil)))
      (psm_cons (psm_for PassesOwn.never rfl (pim_enum (by rfl) X.z_enumerate (pm_var 0)) (gm_tup rfl (gsm_cons (gm_name (i := 3) nd) (gsm_cons (gm_name (i := 4) nd) (gsm_nil))) (gl_cons (gl_cons gl_nil))) (psm_one (psm_insert (pp_var 2) (pm_op op_modN r2m_mod (pm_ix ix_seq r2m_ix (pm_var 1) (pm_var 3) (fun _ _ => rfl)) (pm_op op_addA r2m_add (pm_callB call_lenA cm_len (by rfl) X.z_len bt_len (pam_cons (pm_var 2) (pam_nil))) (pm_int))) (pm_var 4))))
      (psm_one (psm_retV 2)))
set_option maxHeartbeats 4000000 in
theorem ok__law_a_log (X : Tx K mg) : FnOk P w K mg base CX0 2 X.a__law_a_log X.d__law_a_log ["script", "at", "most"] (spT K 3 Q.law_a_log) := by
  have nd : (N__law_a_log).Nodup := sc__law_a_log.nd
  exact fn_ok (k := 1) (N := N__law_a_log) X.F__law_a_log sc__law_a_log fun cdv A outer s H E hr =>
    psm_cons (psm_set (i := 3) nd (pm_call (ok__law_draws X) (hr.mono (by decide)) (by rfl) X.g__law_draws X.F__law_draws.kp X.b__law_draws (pam_cons (pm_call (ok__law_cell_at X) (hr.mono (by decide)) (by rfl) X.g__law_cell_at X.F__law_cell_at.kp X.b__law_cell_at (pam_cons (pm_var 0) (pam_cons (pm_var 1) (pam_nil))) (lenS len1)) (pam_cons (pm_int) (pam_cons (pm_op op_pow r2m_pow (pm_int) (pm_int)) (pam_nil)))) (lenS (lenS len1))))
      (psm_cons (psm_set (i := 4) nd (pm_op op_addA r2m_add (pm_int) (pm_op op_modN r2m_mod (pm_ix ix_seq r2m_ix (pm_var 3) (pm_int) (fun _ _ => rfl)) (pm_var 2))))
      (psm_cons (psm_setF (i := 5) nd (pf_lst (paf_nil)))
      (psm_cons (psm_set (i := 6) nd (pm_call (ok__law_draws X) (hr.mono (by decide)) (by rfl) X.g__law_draws X.F__law_draws.kp X.b__law_draws (pam_cons (pm_call (ok__law_cell_at X) (hr.mono (by decide)) (by rfl) X.g__law_cell_at X.F__law_cell_at.kp X.b__law_cell_at (pam_cons (pm_var 0) (pam_cons (pm_op op_addA r2m_add (pm_var 1) (pm_int)) (pam_nil))) (lenS len1)) (pam_cons (pm_int) (pam_cons (pm_op op_pow r2m_pow (pm_int) (pm_int)) (pam_nil)))) (lenS (lenS len1))))
      (psm_cons (psm_for PassesOwn.never rfl (pim_seq (pm_op op_addA r2m_add (pm_slice (pm_var 3) (pom_some (pm_int)) (pom_some (pm_op op_addA r2m_add (pm_op op_addA r2m_add (pm_int) (pm_int)) (pm_op op_modN r2m_mod (pm_ix ix_seq r2m_ix (pm_var 3) (pm_int) (fun _ _ => rfl)) (pm_int))))) (pm_slice (pm_var 6) (pom_none) (pom_some (pm_op op_mulA r2m_mul (pm_int) (pm_callTy call_intA cm_int (by rfl) X.z_int bt_int (pam_cons (pm_cmp (op_eqD hr.units) r2m_eq (pm_op op_modN r2m_mod (pm_ix ix_seq r2m_ix (pm_var 3) (pm_int) (fun _ _ => rfl)) (pm_int)) (pm_int) (nomark _)) (pam_nil)))))))) (gm_name (i := 7) nd) (psm_cons (psm_set (i := 8) nd (pm_op op_modN r2m_mod (pm_var 7) (pm_ix ix_seq r2m_ix (pm_lst (pam_cons (pm_int) (pam_cons (pm_int) (pam_cons (pm_int) (pam_nil))))) (pm_op op_modN r2m_mod (pm_ix ix_seq r2m_ix (pm_var 3) (pm_int) (fun _ _ => rfl)) (pm_int)) (fun _ _ => rfl))))
      (psm_one (psm_if (ptm_cmp op_notIn_seq r2m_notIn (pm_var 8) (pm_var 5) rfl) (psm_one (psm_append (pp_var 5) (pm_var 8))) (psm_nil)))))
      (psm_frz 5 (psm_cons (psm_setF (i := 9) nd (pf_lst (paf_nil)))
      (psm_cons (psm_for PassesOwn.never rfl (pim_range1 (fz := true) (by rfl) X.z_range (pm_var 4)) (gm_name (i := 10) nd) (psm_cons (psm_set (i := 11) nd (pm_call (ok__law_draws X) (hr.mono (by decide)) (by rfl) X.g__law_draws X.F__law_draws.kp X.b__law_draws (pam_cons (pm_op op_addA r2m_add (pm_call (ok__law_cell_at X) (hr.mono (by decide)) (by rfl) X.g__law_cell_at X.F__law_cell_at.kp X.b__law_cell_at (pam_cons (pm_var 0) (pam_cons (pm_op op_addA r2m_add (pm_var 1) (pm_int)) (pam_nil))) (lenS len1)) (pm_op op_mulA r2m_mul (pm_var 10) (pm_op op_addA r2m_add (pm_ix ix_seq r2m_ix (pm_var 3) (pm_int) (fun _ _ => rfl)) (pm_int)))) (pam_cons (pm_int) (pam_cons (pm_op op_pow r2m_pow (pm_int) (pm_int)) (pam_nil)))) (lenS (lenS len1))))
      (psm_cons (psm_set (i := 12) nd (pm_op op_modN r2m_mod (pm_op op_fdivB r2m_fdiv (pm_ix ix_seq r2m_ix (pm_var 11) (pm_int) (fun _ _ => rfl)) (pm_int)) (pm_callB call_lenA cm_len (by rfl) X.z_len bt_len (pam_cons (pm_var 5) (pam_nil)))))
      (psm_cons (psm_set (i := 13) nd (pm_slice (pm_op op_mulA r2m_mul (pm_var 5) (pm_int)) (pom_some (pm_var 12)) (pom_some (pm_op op_addA r2m_add (pm_var 12) (pm_callB (cr_minA rfl hr.units) cm_min (by rfl) X.z_min bt_min (pam_cons (pm_int) (pam_cons (pm_callB call_lenA cm_len (by rfl) X.z_len bt_len (pam_cons (pm_var 5) (pam_nil))) (pam_nil))))))))
      (psm_cons (psm_setLc (i := 14) (own := [("j", 19), ("one", 8)]) rfl nd (pim_enum (by rfl) X.z_enumerate (pm_var 13)) (blkOk_by (by rfl)) (fun _ _ _ _ _ => gm_tup rfl (gsm_cons (gm_name (i := 19) nd) (gsm_cons (gm_name (i := 8) nd) (gsm_nil))) (gl_cons (gl_cons gl_nil))) (fun _ _ _ _ _ => ptsm_one (ptm_cmp op_gt r2m_gt (pm_op op_modN r2m_mod (pm_ix ix_seq r2m_ix (pm_var 11) (pm_var 19) (fun _ _ => rfl)) (pm_int)) (pm_int) (nomark _))) (fun _ _ _ _ _ => pm_var 8) (sw_true rfl rfl rfl (by rfl)))
      (psm_cons (psm_set (i := 14) nd (pm_orL (pm_var 14) (pm_one (pm_lst (pam_cons (pm_ix ix_seq r2m_ix (pm_var 5) (pm_op op_modN r2m_mod (pm_ix ix_seq r2m_ix (pm_var 11) (pm_int) (fun _ _ => rfl)) (pm_callB call_lenA cm_len (by rfl) X.z_len bt_len (pam_cons (pm_var 5) (pam_nil)))) (fun _ _ => rfl)) (pam_nil))))))
      (psm_cons (psm_set (i := 14) nd (pm_call (ok__law_mixed X) (hr.mono (by decide)) (by rfl) X.g__law_mixed X.F__law_mixed.kp X.b__law_mixed (pam_cons (pm_var 14) (pam_cons (pm_slice (pm_var 11) (pom_some (pm_int)) (pom_some (pm_int))) (pam_nil))) (lenS len1)))
      (psm_cons (psm_set (i := 15) nd (pm_ix ix_seq r2m_ix (pm_lst (pam_cons (pm_int) (pam_cons (pm_int) (pam_nil)))) (pm_op op_modN r2m_mod (pm_ix ix_seq r2m_ix (pm_var 3) (pm_int) (fun _ _ => rfl)) (pm_int)) (fun _ _ => rfl)))
      (psm_cons (psm_set (i := 16) nd (pm_lc (own := [("one", 8)]) rfl nd (pim_seqB (pm_var 14)) (blkOk_by (by rfl)) (fun _ _ _ _ _ => gm_name (i := 8) nd) (fun _ _ _ _ _ => ptsm_nil) (fun _ _ _ _ _ => pm_op op_fdivB r2m_fdiv (pm_op op_modN r2m_mod (pm_op op_addA r2m_add (pm_op op_mulA r2m_mul (pm_op op_modN r2m_mod (pm_ix ix_seq r2m_ix (pm_var 3) (pm_int) (fun _ _ => rfl)) (pm_int)) (pm_var 8)) (pm_ix ix_seq r2m_ix (pm_var 3) (pm_int) (fun _ _ => rfl))) (pm_int)) (pm_var 15))))
      (psm_cons (psm_set (i := 17) nd (pm_callB (cr_minA rfl hr.units) cm_min (by rfl) X.z_min bt_min (pam_cons (pm_var 16) (pam_nil))))
      (psm_cons (psm_setLc (i := 18) (own := [("j", 19), ("one", 8)]) rfl nd (pim_enum (by rfl) X.z_enumerate (pm_var 14)) (blkOk_by (by rfl)) (fun _ _ _ _ _ => gm_tup rfl (gsm_cons (gm_name (i := 19) nd) (gsm_cons (gm_name (i := 8) nd) (gsm_nil))) (gl_cons (gl_cons gl_nil))) (fun _ _ _ _ _ => ptsm_one (ptm_cmp (op_eqD hr.units) r2m_eq (pm_ix ix_seq r2m_ix (pm_var 16) (pm_var 19) (fun _ _ => rfl)) (pm_var 17) (nomark _))) (fun _ _ _ _ _ => pm_var 8) (sw_true rfl rfl rfl (by rfl)))
      (psm_cons (psm_if (ptm_w (pwm_or (ptm_cmp (op_eqD hr.units) r2m_eq (pm_op op_modN r2m_mod (pm_ix ix_seq r2m_ix (pm_var 3) (pm_int) (fun _ _ => rfl)) (pm_int)) (pm_int) (nomark _)) (pwm_or1 (ptm_cmp (op_eqD hr.units) r2m_eq (pm_op op_modN r2m_mod (pm_ix ix_seq r2m_ix (pm_var 11) (pm_int) (fun _ _ => rfl)) (pm_int)) (pm_int) (nomark _))))) (psm_cons (psm_setLc (i := 18) (own := [("j", 19), ("one", 8)]) rfl nd (pim_enum (by rfl) X.z_enumerate (pm_var 14)) (blkOk_by (by rfl)) (fun _ _ _ _ _ => gm_tup rfl (gsm_cons (gm_name (i := 19) nd) (gsm_cons (gm_name (i := 8) nd) (gsm_nil))) (gl_cons (gl_cons gl_nil))) (fun _ _ _ _ _ => ptsm_one (ptm_cmp (op_eqD hr.units) r2m_eq (pm_op op_modN r2m_mod (pm_ix ix_seq r2m_ix (pm_var 11) (pm_op op_addA r2m_add (pm_int) (pm_var 19)) (fun _ _ => rfl)) (pm_int)) (pm_int) (nomark _))) (fun _ _ _ _ _ => pm_var 8) (sw_true rfl rfl rfl (by rfl)))
      (psm_one (psm_set (i := 18) nd (pm_orL (pm_var 18) (pm_one (pm_slice (pm_var 14) (pom_none) (pom_some (pm_int)))))))) (psm_nil))
      (psm_one (psm_append (pp_var 9) (pm_tup (pam_cons (pm_callTy call_tuple_of cm_tuple (by rfl) X.z_tuple bt_tuple (pam_cons (pm_var 14) (pam_nil))) (pam_cons (pm_callTy call_tuple_of cm_tuple (by rfl) X.z_tuple bt_tuple (pam_cons (pm_call (ok__law_mixed X) (hr.mono (by decide)) (by rfl) X.g__law_mixed X.F__law_mixed.kp X.b__law_mixed (pam_cons (pm_var 18) (pam_cons (pm_slice (pm_var 11) (pom_some (pm_int)) (pom_some (pm_int))) (pam_nil))) (lenS len1)) (pam_nil))) (pam_nil))))))))))))))))))
      (psm_one (psm_retV 9)))))))))
set_option maxHeartbeats 4000000 in
theorem ok__law_spoilt (X : Tx K mg) : FnOk P w K mg base CX0 1 X.a__law_spoilt X.d__law_spoilt ["log", "picks"] (spT K 2 Q.law_spoilt_4) := by
  have nd : (N__law_spoilt).Nodup := sc__law_spoilt.nd
  exact fn_ok (k := 0) (N := N__law_spoilt) X.F__law_spoilt sc__law_spoilt fun cdv A outer s H E hr =>
    psm_cons (psm_setF (i := 0) nd (pf_list (by rfl) X.z_list (pm_var 0)))
      (psm_cons (psm_set (i := 2) nd (pm_op op_modN r2m_mod (pm_ix ix_seq r2m_ix (pm_var 1) (pm_int) (fun _ _ => rfl)) (pm_callB call_lenA cm_len (by rfl) X.z_len bt_len (pam_cons (pm_var 0) (pam_nil)))))
      (psm_cons (psm_setF (i := 3) nd (pf_lcT (own := [("side", 4)]) rfl nd (pim_seqB (pm_ix ix_seq r2m_ix (pm_var 0) (pm_var 2) (fun _ _ => rfl))) (blkOk_by (by rfl)) (fun _ _ _ _ _ => gm_name (i := 4) nd) (fun _ _ _ _ _ => ptsm_nil) (fun _ _ _ _ _ => pf_list (by rfl) X.z_list (pm_var 4))))
      (psm_cons (psm_set (i := 4) nd (pm_op op_modN r2m_mod (pm_ix ix_seq r2m_ix (pm_var 1) (pm_int) (fun _ _ => rfl)) (pm_int)))
      (psm_cons (psm_set (i := 5) nd (pm_op op_modN r2m_mod (pm_ix ix_seq r2m_ix (pm_var 1) (pm_int) (fun _ _ => rfl)) (pm_callB call_lenA cm_len (by rfl) X.z_len bt_len (pam_cons (pm_ix ix_seq r2m_ix (pm_var 3) (pm_var 4) (fun _ _ => rfl)) (pam_nil)))))
      (psm_cons (psm_set (i := 6) nd (pm_op op_modN r2m_mod (pm_ix ix_seq r2m_ix (pm_var 1) (pm_int) (fun _ _ => rfl)) (pm_int)))
      (psm_cons (psm_if (ptm_cmp op_lt r2m_lt (pm_var 6) (pm_int) (nomark _)) (psm_one (psm_setIx (pp_ix (pp_var 3) (pm_var 4) (fun _ _ => rfl)) (pm_var 5) (pm_ix ix_seq r2m_ix (pm_lst (pam_cons (pm_neg (pm_int)) (pam_cons (pm_int) (pam_cons (pm_int) (pam_nil))))) (pm_var 6) (fun _ _ => rfl)))) (psm_nil))
      (psm_cons (psm_if (ptm_cmp (op_eqD hr.units) r2m_eq (pm_var 6) (pm_int) (nomark _)) (psm_one (psm_append (pp_ix (pp_var 3) (pm_var 4) (fun _ _ => rfl)) (pm_ix ix_seq r2m_ix (pm_ix ix_seq r2m_ix (pm_var 3) (pm_var 4) (fun _ _ => rfl)) (pm_var 5) (fun _ _ => rfl)))) (psm_nil))
      (psm_cons (psm_if (ptm_cmp (op_eqD hr.units) r2m_eq (pm_var 6) (pm_int) (nomark _)) (psm_one (psm_append (pp_ix (pp_var 3) (pm_int) (fun _ _ => rfl)) (pm_op op_modN r2m_mod (pm_ix ix_seq r2m_ix (pm_var 1) (pm_int) (fun _ _ => rfl)) (pm_int)))) (psm_nil))
      (psm_cons (psm_if (ptm_cmp (op_eqD hr.units) r2m_eq (pm_var 6) (pm_int) (nomark _)) (psm_one (psm_setIx (pp_var 3) (pm_int) (pm_lst (pam_nil)))) (psm_nil))
      (psm_cons (psm_if (ptm_cmp (op_eqD hr.units) r2m_eq (pm_var 6) (pm_int) (nomark _)) (psm_frz 3 (psm_one (psm_set (i := 3) nd (pm_lst (pam_cons (pm_lst (pam_nil)) (pam_cons (pm_ix ix_seq r2m_ix (pm_lst (pam_cons (pm_lst (pam_nil)) (pam_cons (pm_ix ix_seq r2m_ix (pm_var 3) (pm_int) (fun _ _ => rfl)) (pam_nil)))) (pm_op op_modN r2m_mod (pm_ix ix_seq r2m_ix (pm_var 1) (pm_int) (fun _ _ => rfl)) (pm_int)) (fun _ _ => rfl)) (pam_nil))))))) (psm_nil))
      (psm_cons (psm_if (ptm_cmp (op_eqD hr.units) r2m_eq (pm_var 6) (pm_int) (nomark _)) (psm_cons (psm_setLc (i := 7) (own := [("one", 8)]) rfl nd (pim_range2 (fz := true) (by rfl) X.z_range (pm_int) (pm_int)) (blkOk_by (by rfl)) (fun _ _ _ _ _ => gm_name (i := 8) nd) (fun _ _ _ _ _ => ptsm_one (ptm_cmp op_notIn_seq r2m_notIn (pm_var 8) (pm_ix ix_seq r2m_ix (pm_var 3) (pm_int) (fun _ _ => rfl)) rfl)) (fun _ _ _ _ _ => pm_var 8) (sw_true rfl rfl rfl (by rfl)))
      (psm_one (psm_setIx (pp_var 3) (pm_int) (pm_slice (pm_op op_addA r2m_add (pm_ix ix_seq r2m_ix (pm_var 3) (pm_int) (fun _ _ => rfl)) (pm_var 7)) (pom_none) (pom_some (pm_op op_sub r2m_sub (pm_int) (pm_op op_modN r2m_mod (pm_ix ix_seq r2m_ix (pm_var 1) (pm_int) (fun _ _ => rfl)) (pm_int)))))))) (psm_nil))
      (psm_frz 3 (psm_cons (psm_setIx (pp_var 0) (pm_var 2) (pm_tup (pam_cons (pm_callTy call_tuple_of cm_tuple (by rfl) X.z_tuple bt_tuple (pam_cons (pm_ix ix_seq r2m_ix (pm_var 3) (pm_int) (fun _ _ => rfl)) (pam_nil))) (pam_cons (pm_callTy call_tuple_of cm_tuple (by rfl) X.z_tuple bt_tuple (pam_cons (pm_ix ix_seq r2m_ix (pm_var 3) (pm_int) (fun _ _ => rfl)) (pam_nil))) (pam_nil)))))
      (psm_frz 0 (psm_cons (psm_if (ptm_cmp op_gt r2m_gt (pm_var 6) (pm_int) (nomark _)) (psm_one (psm_set (i := 0) nd (pm_slice (pm_op op_mulA r2m_mul (pm_var 0) (pm_int)) (pom_none) (pom_some (pm_ix ix_seq r2m_ix (pm_lst (pam_cons (pm_int) (pam_cons (pm_int) (pam_cons (pm_int) (pam_nil))))) (pm_op op_modN r2m_mod (pm_ix ix_seq r2m_ix (pm_var 1) (pm_int) (fun _ _ => rfl)) (pm_int)) (fun _ _ => rfl)))))) (psm_nil))
      (psm_one (psm_retV 0)))))))))))))))))
set_option maxHeartbeats 4000000 in
theorem ok__law_due (X : Tx K mg) : FnOk P w K mg base CX0 1 X.a__law_due X.d__law_due ["log"] (spT K 1 Q.law_due_3) := by
  have nd : (N__law_due).Nodup := sc__law_due.nd
  exact fn_ok (k := 0) (N := N__law_due) X.F__law_due sc__law_due fun cdv A outer s H E hr =>
    psm_cons (psm_if (ptm_w (pwm_or (ptm_cmp op_lt r2m_lt (pm_callB call_lenA cm_len (by rfl) X.z_len bt_len (pam_cons (pm_var 0) (pam_nil))) (pm_int) (nomark _)) (pwm_or1 (ptm_cmp op_gt r2m_gt (pm_callB call_lenA cm_len (by rfl) X.z_len bt_len (pam_cons (pm_var 0) (pam_nil))) (pm_int) (nomark _))))) (psm_one (psm_ret (pm_bl))) (psm_nil))
      (psm_cons (psm_for PassesOwn.never rfl (pim_seq (pm_var 0)) (gm_tup rfl (gsm_cons (gm_name (i := 1) nd) (gsm_cons (gm_name (i := 2) nd) (gsm_nil))) (gl_cons (gl_cons gl_nil))) (psm_cons (psm_for PassesOwn.never rfl (pim_seq (pm_tup (pam_cons (pm_var 1) (pam_cons (pm_var 2) (pam_nil))))) (gm_name (i := 3) nd) (psm_cons (psm_if (ptm_w (pwm_or (ptm_cmp op_lt r2m_lt (pm_callB call_lenA cm_len (by rfl) X.z_len bt_len (pam_cons (pm_var 3) (pam_nil))) (pm_int) (nomark _)) (pwm_or (ptm_cmp op_gt r2m_gt (pm_callB call_lenA cm_len (by rfl) X.z_len bt_len (pam_cons (pm_var 3) (pam_nil))) (pm_int) (nomark _)) (pwm_or1 (ptm_cmp (op_neD hr.units) r2m_ne (pm_lenSet (by rfl) X.z_len (by rfl) X.z_set rfl (pm_var 3)) (pm_callB call_lenA cm_len (by rfl) X.z_len bt_len (pam_cons (pm_var 3) (pam_nil))) (nomark _)))))) (psm_one (psm_ret (pm_bl))) (psm_nil))
      (psm_one (psm_if (ptm_w (pwm_or (ptm_cmp op_lt r2m_lt (pm_callB (cr_minA rfl hr.units) cm_min (by rfl) X.z_min bt_min (pam_cons (pm_var 3) (pam_nil))) (pm_int) (nomark _)) (pwm_or1 (ptm_cmp op_gt r2m_gt (pm_callB (cr_maxA rfl hr.units) cm_max (by rfl) X.z_max bt_max (pam_cons (pm_var 3) (pam_nil))) (pm_int) (nomark _))))) (psm_one (psm_ret (pm_bl))) (psm_nil)))))
      (psm_one (psm_if (ptm_cmp (op_neD hr.units) r2m_ne (pm_lc (own := [("one", 4)]) rfl nd (pim_seqB (pm_var 2)) (blkOk_by (by rfl)) (fun _ _ _ _ _ => gm_name (i := 4) nd) (fun _ _ _ _ _ => ptsm_one (ptm_cmp op_notIn_seq r2m_notIn (pm_var 4) (pm_var 1) rfl)) (fun _ _ _ _ _ => pm_var 4)) (pm_lst (pam_nil)) (nomark _)) (psm_one (psm_ret (pm_bl))) (psm_nil)))))
      (psm_one (psm_ret (pm_bl))))
set_option maxHeartbeats 4000000 in
theorem ok_law (X : Tx K mg) : FnOk P w K mg base CX0 4 X.a_law X.d_law ["script"] (spT K 1 Q.k23_law) := by
  have nd : (N_law).Nodup := sc_law.nd
  exact fn_ok (k := 3) (N := N_law) X.F_law sc_law fun cdv A outer s H E hr =>
    psm_cons (psm_set (i := 1) nd (pm_call (ok__law_a_log X) (hr.mono (by decide)) (by rfl) X.g__law_a_log X.F__law_a_log.kp X.b__law_a_log (pam_cons (pm_var 0) (pam_cons (pm_int) (pam_cons (pm_int) (pam_nil)))) (lenS (lenS len1))))
      (psm_cons (psm_for PassesOwn.never rfl (pim_seq (pm_op op_addA r2m_add (pm_lst (pam_cons (pm_int) (pam_nil))) (pm_slice (pm_var 0) (pom_some (pm_int)) (pom_some (pm_int))))) (gm_name (i := 2) nd) (psm_cons (psm_set (i := 3) nd (pm_call (ok__law_spoilt X) (hr.mono (by decide)) (by rfl) X.g__law_spoilt X.F__law_spoilt.kp X.b__law_spoilt (pam_cons (pm_var 1) (pam_cons (pm_call (ok__law_draws X) (hr.mono (by decide)) (by rfl) X.g__law_draws X.F__law_draws.kp X.b__law_draws (pam_cons (pm_op op_addA r2m_add (pm_var 2) (pm_int)) (pam_cons (pm_int) (pam_cons (pm_int) (pam_nil)))) (lenS (lenS len1))) (pam_nil))) (lenS len1)))
      (psm_cons (psm_if (ptm_cmp (op_eqD hr.units) r2m_eq (pm_var 2) (pm_int) (nomark _)) (psm_one (psm_set (i := 3) nd (pm_callTy call_list_of cm_list (by rfl) X.z_list bt_list (pam_cons (pm_var 1) (pam_nil))))) (psm_nil))
      (psm_cons (psm_set (i := 4) nd (pm_callTy call_list_of cm_list (by rfl) X.z_list bt_list (pam_cons (pm_var 3) (pam_nil))))
      (psm_cons (psm_set (i := 5) nd (pm_call (ok_is_log X) (hr.mono (by decide)) (by rfl) X.g_is_log X.F_is_log.kp X.b_is_log (pam_cons (pm_var 4) (pam_nil)) len1))
      (psm_one (psm_if (ptm_w (pwm_or (ptm_not (ptm_val (pm_isi (by rfl) X.z_isinstance (by rfl) X.z_bool bt_bool isi_bool (pm_var 5)))) (pwm_or (ptm_cmp (op_neD hr.units) r2m_ne (pm_var 5) (pm_call (ok__law_due X) (hr.mono (by decide)) (by rfl) X.g__law_due X.F__law_due.kp X.b__law_due (pam_cons (pm_var 3) (pam_nil)) len1) (nomark _)) (pwm_or1 (ptm_cmp (op_neD hr.units) r2m_ne (pm_var 4) (pm_var 3) (nomark _)))))) (psm_one (psm_ret (pm_bl))) (psm_nil))))))))
      (psm_one (psm_ret (pm_bl))))
end
end W
namespace W
open M
theorem law_true (ns : List Int) (_ : ns.length ≤ 63) : Q.k23_law [.sc ns] = some (.p (.bool true)) := B.k23_true ns
end W
namespace W
open PySem PySem.Spec PyProof.Rows L2 M
theorem all_mk {l : PySem.W.OpenLaw} {w : World} {K : PySem.W.Frag} {h : Heap} {mg : Str → Option Value} {fa : Addr} (Y : K.In h) (G : h.Ns mainGlobals mg) (hfa : mg "law" = some (.ref fa))
    {f0 : Addr} {od0 an0 : Option Addr} {sl0 : Array (Option Value)} {oc0 kV0 dc0 pm0 cd0 ct0 : Value}
    (a0 : PySem.W.nsIn K mainGlobals "are_unlike" = some (some (.ref f0))) (l0 : K.lookup f0 = some ⟨oc0, od0, .func (PySem.W.fnOf "are_unlike" "are_unlike" (defArgs s_are_unlike) (defBody s_are_unlike) (defScope s_are_unlike) .none kV0 dc0 pm0 an0 cd0 ct0), sl0⟩) (c0 : PySem.W.codeIn K cd0 "are_unlike" = true) (k0 : PySem.W.keepIn K (.ref f0) = true)
    {f1 : Addr} {od1 an1 : Option Addr} {sl1 : Array (Option Value)} {oc1 kV1 dc1 pm1 cd1 ct1 : Value}
    (a1 : PySem.W.nsIn K mainGlobals "is_choosing" = some (some (.ref f1))) (l1 : K.lookup f1 = some ⟨oc1, od1, .func (PySem.W.fnOf "is_choosing" "is_choosing" (defArgs s_is_choosing) (defBody s_is_choosing) (defScope s_is_choosing) .none kV1 dc1 pm1 an1 cd1 ct1), sl1⟩) (c1 : PySem.W.codeIn K cd1 "is_choosing" = true) (k1 : PySem.W.keepIn K (.ref f1) = true)
    {f2 : Addr} {od2 an2 : Option Addr} {sl2 : Array (Option Value)} {oc2 kV2 dc2 pm2 cd2 ct2 : Value}
    (a2 : PySem.W.nsIn K mainGlobals "is_log" = some (some (.ref f2))) (l2 : K.lookup f2 = some ⟨oc2, od2, .func (PySem.W.fnOf "is_log" "is_log" (defArgs s_is_log) (defBody s_is_log) (defScope s_is_log) .none kV2 dc2 pm2 an2 cd2 ct2), sl2⟩) (c2 : PySem.W.codeIn K cd2 "is_log" = true) (k2 : PySem.W.keepIn K (.ref f2) = true)
    {f3 : Addr} {od3 an3 : Option Addr} {sl3 : Array (Option Value)} {oc3 kV3 dc3 pm3 cd3 ct3 : Value}
    (a3 : PySem.W.nsIn K mainGlobals "_law_cell_at" = some (some (.ref f3))) (l3 : K.lookup f3 = some ⟨oc3, od3, .func (PySem.W.fnOf "_law_cell_at" "_law_cell_at" (defArgs s__law_cell_at) (defBody s__law_cell_at) (defScope s__law_cell_at) .none kV3 dc3 pm3 an3 cd3 ct3), sl3⟩) (c3 : PySem.W.codeIn K cd3 "_law_cell_at" = true) (k3 : PySem.W.keepIn K (.ref f3) = true)
    {f4 : Addr} {od4 an4 : Option Addr} {sl4 : Array (Option Value)} {oc4 kV4 dc4 pm4 cd4 ct4 : Value}
    (a4 : PySem.W.nsIn K mainGlobals "_law_draws" = some (some (.ref f4))) (l4 : K.lookup f4 = some ⟨oc4, od4, .func (PySem.W.fnOf "_law_draws" "_law_draws" (defArgs s__law_draws) (defBody s__law_draws) (defScope s__law_draws) .none kV4 dc4 pm4 an4 cd4 ct4), sl4⟩) (c4 : PySem.W.codeIn K cd4 "_law_draws" = true) (k4 : PySem.W.keepIn K (.ref f4) = true)
    {f5 : Addr} {od5 an5 : Option Addr} {sl5 : Array (Option Value)} {oc5 kV5 dc5 pm5 cd5 ct5 : Value}
    (a5 : PySem.W.nsIn K mainGlobals "_law_mixed" = some (some (.ref f5))) (l5 : K.lookup f5 = some ⟨oc5, od5, .func (PySem.W.fnOf "_law_mixed" "_law_mixed" (defArgs s__law_mixed) (defBody s__law_mixed) (defScope s__law_mixed) .none kV5 dc5 pm5 an5 cd5 ct5), sl5⟩) (c5 : PySem.W.codeIn K cd5 "_law_mixed" = true) (k5 : PySem.W.keepIn K (.ref f5) = true)
    {f6 : Addr} {od6 an6 : Option Addr} {sl6 : Array (Option Value)} {oc6 kV6 dc6 pm6 cd6 ct6 : Value}
    (a6 : PySem.W.nsIn K mainGlobals "_law_a_log" = some (some (.ref f6))) (l6 : K.lookup f6 = some ⟨oc6, od6, .func (PySem.W.fnOf "_law_a_log" "_law_a_log" (defArgs s__law_a_log) (defBody s__law_a_log) (defScope s__law_a_log) .none kV6 dc6 pm6 an6 cd6 ct6), sl6⟩) (c6 : PySem.W.codeIn K cd6 "_law_a_log" = true) (k6 : PySem.W.keepIn K (.ref f6) = true)
    {f7 : Addr} {od7 an7 : Option Addr} {sl7 : Array (Option Value)} {oc7 kV7 dc7 pm7 cd7 ct7 : Value}
    (a7 : PySem.W.nsIn K mainGlobals "_law_spoilt" = some (some (.ref f7))) (l7 : K.lookup f7 = some ⟨oc7, od7, .func (PySem.W.fnOf "_law_spoilt" "_law_spoilt" (defArgs s__law_spoilt) (defBody s__law_spoilt) (defScope s__law_spoilt) .none kV7 dc7 pm7 an7 cd7 ct7), sl7⟩) (c7 : PySem.W.codeIn K cd7 "_law_spoilt" = true) (k7 : PySem.W.keepIn K (.ref f7) = true)
    {f8 : Addr} {od8 an8 : Option Addr} {sl8 : Array (Option Value)} {oc8 kV8 dc8 pm8 cd8 ct8 : Value}
    (a8 : PySem.W.nsIn K mainGlobals "_law_due" = some (some (.ref f8))) (l8 : K.lookup f8 = some ⟨oc8, od8, .func (PySem.W.fnOf "_law_due" "_law_due" (defArgs s__law_due) (defBody s__law_due) (defScope s__law_due) .none kV8 dc8 pm8 an8 cd8 ct8), sl8⟩) (c8 : PySem.W.codeIn K cd8 "_law_due" = true) (k8 : PySem.W.keepIn K (.ref f8) = true)
    {f9 : Addr} {od9 an9 : Option Addr} {sl9 : Array (Option Value)} {oc9 kV9 dc9 pm9 cd9 ct9 : Value}
    (a9 : PySem.W.nsIn K mainGlobals "law" = some (some (.ref f9))) (l9 : K.lookup f9 = some ⟨oc9, od9, .func (PySem.W.fnOf "law" "law" (defArgs s_law) (defBody s_law) (defScope s_law) .none kV9 dc9 pm9 an9 cd9 ct9), sl9⟩) (c9 : PySem.W.codeIn K cd9 "law" = true) (k9 : PySem.W.keepIn K (.ref f9) = true)
    (z0 : PySem.W.nsIn K mainGlobals "all" = some none)
    (z1 : PySem.W.nsIn K mainGlobals "bool" = some none)
    (z2 : PySem.W.nsIn K mainGlobals "enumerate" = some none)
    (z3 : PySem.W.nsIn K mainGlobals "int" = some none)
    (z4 : PySem.W.nsIn K mainGlobals "isinstance" = some none)
    (z5 : PySem.W.nsIn K mainGlobals "len" = some none)
    (z6 : PySem.W.nsIn K mainGlobals "list" = some none)
    (z7 : PySem.W.nsIn K mainGlobals "max" = some none)
    (z8 : PySem.W.nsIn K mainGlobals "min" = some none)
    (z9 : PySem.W.nsIn K mainGlobals "range" = some none)
    (z10 : PySem.W.nsIn K mainGlobals "set" = some none)
    (z11 : PySem.W.nsIn K mainGlobals "tuple" = some none)
    {tk0 : Tok} (q0 : PySem.W.nsIn K mainGlobals "MOST_THINGS" = some (some (.int 100 tk0)))
    {tk1 : Tok} (q1 : PySem.W.nsIn K mainGlobals "MOST_OFFERS" = some (some (.int 12 tk1)))
    {tk2 : Tok} (q2 : PySem.W.nsIn K mainGlobals "MOST_CHOOSINGS" = some (some (.int 16 tk2)))
    (hl : ∀ ns : List Int, ns.length ≤ 63 → Q.k23_law [.sc ns] = some (.p (.bool true))) :
    ∃ fd : FuncData, (∀ (s : Shared) (v : Value), BindsTo s fd ⟨[v], []⟩ [("script", v)]) ∧ ∀ base : Heap, K.In base → base.Ns mainGlobals mg → FnOk l.prog w K mg base CX0 4 fa fd ["script"] (M.spLaw 63 K) := by
  have e := hfa.symm.trans (PySem.W.mg_of Y G a9)
  cases e
  have F0 := fun_mk (st := s_are_unlike) l0 c0 k0
  have F1 := fun_mk (st := s_is_choosing) l1 c1 k1
  have F2 := fun_mk (st := s_is_log) l2 c2 k2
  have F3 := fun_mk (st := s__law_cell_at) l3 c3 k3
  have F4 := fun_mk (st := s__law_draws) l4 c4 k4
  have F5 := fun_mk (st := s__law_mixed) l5 c5 k5
  have F6 := fun_mk (st := s__law_a_log) l6 c6 k6
  have F7 := fun_mk (st := s__law_spoilt) l7 c7 k7
  have F8 := fun_mk (st := s__law_due) l8 c8 k8
  have F9 := fun_mk (st := s_law) l9 c9 k9
  have b0 := F0.binds (ps := ["things"]) fun _ _ _ _ _ _ us hl => match us, hl with | [_], _ => rfl
  have b1 := F1.binds (ps := ["offers", "taken"]) fun _ _ _ _ _ _ us hl => match us, hl with | [_, _], _ => rfl
  have b2 := F2.binds (ps := ["thing"]) fun _ _ _ _ _ _ us hl => match us, hl with | [_], _ => rfl
  have b3 := F3.binds (ps := ["script", "k"]) fun _ _ _ _ _ _ us hl => match us, hl with | [_, _], _ => rfl
  have b4 := F4.binds (ps := ["cell", "many", "base"]) fun _ _ _ _ _ _ us hl => match us, hl with | [_, _, _], _ => rfl
  have b5 := F5.binds (ps := ["row", "picks"]) fun _ _ _ _ _ _ us hl => match us, hl with | [_, _], _ => rfl
  have b6 := F6.binds (ps := ["script", "at", "most"]) fun _ _ _ _ _ _ us hl => match us, hl with | [_, _, _], _ => rfl
  have b7 := F7.binds (ps := ["log", "picks"]) fun _ _ _ _ _ _ us hl => match us, hl with | [_, _], _ => rfl
  have b8 := F8.binds (ps := ["log"]) fun _ _ _ _ _ _ us hl => match us, hl with | [_], _ => rfl
  have b9 := F9.binds (ps := ["script"]) fun _ _ _ _ _ _ us hl => match us, hl with | [_], _ => rfl
  let X : Tx K mg := {
    a_are_unlike := _,
    d_are_unlike := _,
    F_are_unlike := F0,
    b_are_unlike := b0,
    g_are_unlike := PySem.W.mg_of Y G a0,
    a_is_choosing := _,
    d_is_choosing := _,
    F_is_choosing := F1,
    b_is_choosing := b1,
    g_is_choosing := PySem.W.mg_of Y G a1,
    a_is_log := _,
    d_is_log := _,
    F_is_log := F2,
    b_is_log := b2,
    g_is_log := PySem.W.mg_of Y G a2,
    a__law_cell_at := _,
    d__law_cell_at := _,
    F__law_cell_at := F3,
    b__law_cell_at := b3,
    g__law_cell_at := PySem.W.mg_of Y G a3,
    a__law_draws := _,
    d__law_draws := _,
    F__law_draws := F4,
    b__law_draws := b4,
    g__law_draws := PySem.W.mg_of Y G a4,
    a__law_mixed := _,
    d__law_mixed := _,
    F__law_mixed := F5,
    b__law_mixed := b5,
    g__law_mixed := PySem.W.mg_of Y G a5,
    a__law_a_log := _,
    d__law_a_log := _,
    F__law_a_log := F6,
    b__law_a_log := b6,
    g__law_a_log := PySem.W.mg_of Y G a6,
    a__law_spoilt := _,
    d__law_spoilt := _,
    F__law_spoilt := F7,
    b__law_spoilt := b7,
    g__law_spoilt := PySem.W.mg_of Y G a7,
    a__law_due := _,
    d__law_due := _,
    F__law_due := F8,
    b__law_due := b8,
    g__law_due := PySem.W.mg_of Y G a8,
    a_law := _,
    d_law := _,
    F_law := F9,
    b_law := b9,
    g_law := PySem.W.mg_of Y G a9,
    z_all := PySem.W.mg_none_of Y G z0,
    z_bool := PySem.W.mg_none_of Y G z1,
    z_enumerate := PySem.W.mg_none_of Y G z2,
    z_int := PySem.W.mg_none_of Y G z3,
    z_isinstance := PySem.W.mg_none_of Y G z4,
    z_len := PySem.W.mg_none_of Y G z5,
    z_list := PySem.W.mg_none_of Y G z6,
    z_max := PySem.W.mg_none_of Y G z7,
    z_min := PySem.W.mg_none_of Y G z8,
    z_range := PySem.W.mg_none_of Y G z9,
    z_set := PySem.W.mg_none_of Y G z10,
    z_tuple := PySem.W.mg_none_of Y G z11,
    t_MOST_THINGS := _,
    c_MOST_THINGS := PySem.W.mg_of Y G q0,
    t_MOST_OFFERS := _,
    c_MOST_OFFERS := PySem.W.mg_of Y G q1,
    t_MOST_CHOOSINGS := _,
    c_MOST_CHOOSINGS := PySem.W.mg_of Y G q2 }
  exact ⟨PySem.W.fnOf "law" "law" (defArgs s_law) (defBody s_law) (defScope s_law) .none kV9 dc9 pm9 an9 cd9 ct9, fun s v => .of_eq rfl, fun base _ _ => law_ok (ok_law X) hl⟩
end W
open PySem PySem.W PyProof.Rows
set_option maxHeartbeats 0 in
theorem PySem.Challenge.cw_onewish_k23_what_is_a_log_holds : PySem.Challenge.rw_onewish_k23_what_is_a_log.Holds := by
  w_on; o_law; k_head; (case hw => w_witness2)
  k_fill
  refine L2.walk_of (l := PySem.Challenge.rw_onewish_k23_what_is_a_log) (n := 63) (k := 4) (x := "script") (CX := fun _ => L2.CX0) (sp := fun w => M.spLaw 63 _) rfl (by decide) rfl ⟨rfl, by decide, by decide⟩ (fun w h Y => PySem.W.kIn_of Y) ?F (fun _ _ a ns hl _ hS => ⟨a, ns, rfl, hS, hl, fun _ => rfl⟩) (fun _ _ _ _ _ h => h)
  case F =>
    intro w mg fa h KX G hmg
    refine' W.all_mk KX G hmg ?a0 ?l0 ?c0 ?k0 ?a1 ?l1 ?c1 ?k1 ?a2 ?l2 ?c2 ?k2 ?a3 ?l3 ?c3 ?k3 ?a4 ?l4 ?c4 ?k4 ?a5 ?l5 ?c5 ?k5 ?a6 ?l6 ?c6 ?k6 ?a7 ?l7 ?c7 ?k7 ?a8 ?l8 ?c8 ?k8 ?a9 ?l9 ?c9 ?k9 ?z0 ?z1 ?z2 ?z3 ?z4 ?z5 ?z6 ?z7 ?z8 ?z9 ?z10 ?z11 ?q0 ?q1 ?q2 W.law_true
    (case a0 => k_is)
    (case l0 => k_is)
    (case c0 => k_is)
    (case k0 => k_is)
    (case a1 => k_is)
    (case l1 => k_is)
    (case c1 => k_is)
    (case k1 => k_is)
    (case a2 => k_is)
    (case l2 => k_is)
    (case c2 => k_is)
    (case k2 => k_is)
    (case a3 => k_is)
    (case l3 => k_is)
    (case c3 => k_is)
    (case k3 => k_is)
    (case a4 => k_is)
    (case l4 => k_is)
    (case c4 => k_is)
    (case k4 => k_is)
    (case a5 => k_is)
    (case l5 => k_is)
    (case c5 => k_is)
    (case k5 => k_is)
    (case a6 => k_is)
    (case l6 => k_is)
    (case c6 => k_is)
    (case k6 => k_is)
    (case a7 => k_is)
    (case l7 => k_is)
    (case c7 => k_is)
    (case k7 => k_is)
    (case a8 => k_is)
    (case l8 => k_is)
    (case c8 => k_is)
    (case k8 => k_is)
    (case a9 => k_is)
    (case l9 => k_is)
    (case c9 => k_is)
    (case k9 => k_is)
    (case z0 => k_is)
    (case z1 => k_is)
    (case z2 => k_is)
    (case z3 => k_is)
    (case z4 => k_is)
    (case z5 => k_is)
    (case z6 => k_is)
    (case z7 => k_is)
    (case z8 => k_is)
    (case z9 => k_is)
    (case z10 => k_is)
    (case z11 => k_is)
    (case q0 => k_is)
    (case q1 => k_is)
    (case q2 => k_is)
