import PyProof.Rows.All
import HandS.ForMost
import HandS.Wide
import HandS.Conv
import HandS.Zip
import HandS.Deep
import HandS.Style
import HandS.TupAny
import HandS.TupMul
import HandS.Flow
import HandS.More
import HandS.SortInts
import HandS.IsInst
import KE.DataMinMax
import KE.KSortedM
import HandS.SetFor
import PySem.Challenge.RW_onewish_k36_whole_leaks_told_otherwise
set_option Elab.async false
set_option linter.all false
set_option maxRecDepth 100000
/-! M1: data, trees with owned parts, how they stand in the abstract heap. -/
namespace M
open PySem PySem.Spec PyProof.Rows L2

abbrev D := PyData
def keyD : Key → D
  | .inl i => .int i
  | .inr x => .str x

/-! ### frozen data -/
mutual
inductive Rp (K : PySem.W.Frag) (G : Hp) : V → D → Prop
  | non : Rp K G .non .none
  | bl (b : Bool) : Rp K G (.bl b) (.bool b)
  | int (i : Int) : Rp K G (.int i) (.int i)
  | str (x : Str) : Rp K G (.str x) (.str x)
  | lst {a : Addr} {xs : List V} {ds : List D} : G a = some (.lst xs) → Rps K G xs ds → Rp K G (.ref a) (.list ds)
  | tup {a : Addr} {xs : List V} {ds : List D} : SqT K G a xs → Rps K G xs ds → Rp K G (.ref a) (.tuple ds)
  | dct {a : Addr} {kvs : List (Key × V)} {ds : List (D × D)} : G a = some (.dK kvs) → Rpk K G kvs ds → Rp K G (.ref a) (.dict ds)
inductive Rps (K : PySem.W.Frag) (G : Hp) : List V → List D → Prop
  | nil : Rps K G [] []
  | cons {v : V} {vs : List V} {d : D} {ds : List D} : Rp K G v d → Rps K G vs ds → Rps K G (v :: vs) (d :: ds)
inductive Rpk (K : PySem.W.Frag) (G : Hp) : List (Key × V) → List (D × D) → Prop
  | nil : Rpk K G [] []
  | cons {k : Key} {v : V} {r : List (Key × V)} {d : D} {ds : List (D × D)} : Rp K G v d → Rpk K G r ds → Rpk K G ((k, v) :: r) ((keyD k, d) :: ds)
end

theorem Same.seqT {K : PySem.W.Frag} {H H' : Hp} {a : Addr} {xs : List V} (e : Same H H') (h : SqT K H a xs) : SqT K H' a xs := by
  rcases h with (h | ⟨o, h⟩) | h
  · exact .inl (.inl (e _ _ h))
  · exact .inl (.inr ⟨o, e _ _ h⟩)
  · exact .inr h

mutual
theorem Rp.mono {K : PySem.W.Frag} {G G' : Hp} (s : Same G G') : ∀ {v : V} {d : D}, Rp K G v d → Rp K G' v d
  | _, _, .non => .non
  | _, _, .bl b => .bl b
  | _, _, .int i => .int i
  | _, _, .str x => .str x
  | _, _, .lst h r => .lst (s _ _ h) (Rps.mono s r)
  | _, _, .tup h r => .tup (Same.seqT s h) (Rps.mono s r)
  | _, _, .dct h r => .dct (s _ _ h) (Rpk.mono s r)
theorem Rps.mono {K : PySem.W.Frag} {G G' : Hp} (s : Same G G') : ∀ {v : List V} {d : List D}, Rps K G v d → Rps K G' v d
  | _, _, .nil => .nil
  | _, _, .cons h r => .cons (Rp.mono s h) (Rps.mono s r)
theorem Rpk.mono {K : PySem.W.Frag} {G G' : Hp} (s : Same G G') : ∀ {v : List (Key × V)} {d : List (D × D)}, Rpk K G v d → Rpk K G' v d
  | _, _, .nil => .nil
  | _, _, .cons h r => .cons (Rp.mono s h) (Rpk.mono s r)
end

section
variable {K : PySem.W.Frag} {G : Hp}
theorem Rps.length : ∀ {vs : List V} {ds : List D}, Rps K G vs ds → vs.length = ds.length
  | _, _, .nil => rfl
  | _, _, .cons _ r => by simp [Rps.length r]
theorem Rps.get : ∀ {vs : List V} {ds : List D} {i : Nat} {d : D}, Rps K G vs ds → ds[i]? = some d → ∃ v, vs[i]? = some v ∧ Rp K G v d
  | _, _, _, _, .nil, e => by simp at e
  | _, _, 0, _, .cons h _, e => by simp at e; subst e; exact ⟨_, rfl, h⟩
  | _, _, i + 1, d, .cons _ r, e => by
    obtain ⟨v, h1, h2⟩ := Rps.get (i := i) (d := d) r (by simpa using e)
    exact ⟨v, by simpa using h1, h2⟩
theorem Rps.append : ∀ {xs ys : List V} {us ws : List D}, Rps K G xs us → Rps K G ys ws → Rps K G (xs ++ ys) (us ++ ws)
  | _, _, _, _, .nil, s => s
  | _, _, _, _, .cons r t, s => .cons r (Rps.append t s)
theorem Rps.take : ∀ {xs : List V} {us : List D} (n : Nat), Rps K G xs us → Rps K G (xs.take n) (us.take n)
  | _, _, 0, _ => .nil
  | _, _, _ + 1, .nil => .nil
  | _, _, n + 1, .cons r t => .cons r (Rps.take n t)
theorem Rps.drop : ∀ {xs : List V} {us : List D} (n : Nat), Rps K G xs us → Rps K G (xs.drop n) (us.drop n)
  | _, _, 0, r => r
  | _, _, _ + 1, .nil => .nil
  | _, _, n + 1, .cons _ t => Rps.drop n t
theorem Rps.reverse : ∀ {xs : List V} {us : List D}, Rps K G xs us → Rps K G xs.reverse us.reverse
  | _, _, .nil => .nil
  | _, _, .cons r t => by simp only [List.reverse_cons]; exact (Rps.reverse t).append (.cons r .nil)
theorem Rps.rep {xs : List V} {us : List D} (r : Rps K G xs us) : ∀ n : Nat, Rps K G (List.replicate n xs).flatten (List.replicate n us).flatten
  | 0 => .nil
  | n + 1 => by
    rw [List.replicate_succ, List.replicate_succ, List.flatten_cons, List.flatten_cons]
    exact r.append (r.rep n)
theorem Rps.one {v : V} {d : D} (h : Rp K G v d) : Rps K G [v] [d] := .cons h .nil
theorem Rps.set {v : V} {d : D} (h : Rp K G v d) : ∀ {xs : List V} {us : List D} (i : Nat), Rps K G xs us → Rps K G (xs.set i v) (us.set i d)
  | _, _, _, .nil => .nil
  | _, _, 0, .cons _ t => .cons h t
  | _, _, i + 1, .cons r t => .cons r (Rps.set h i t)
theorem Rps.ints : ∀ {vs : List V} {ns : List Int}, Rps K G vs (ns.map PyData.int) → vs = ns.map V.int
  | [], [], _ => rfl
  | _, _ :: _, .cons (.int i) r => by simp only [List.map_cons]; rw [Rps.ints r]
  | _ :: _, [], h => nomatch h
theorem Rps.of_ints : ∀ (ns : List Int), Rps K G (ns.map V.int) (ns.map PyData.int)
  | [] => .nil
  | _ :: r => .cons (.int _) (Rps.of_ints r)
theorem Rps.bls : ∀ {vs : List V} {ns : List Bool}, Rps K G vs (ns.map PyData.bool) → vs = ns.map V.bl
  | [], [], _ => rfl
  | _, _ :: _, .cons (.bl i) r => by simp only [List.map_cons]; rw [Rps.bls r]
  | _ :: _, [], h => nomatch h
theorem Rps.strs : ∀ {vs : List V} {ns : List Str}, Rps K G vs (ns.map PyData.str) → vs = ns.map V.str
  | [], [], _ => rfl
  | _, _ :: _, .cons (.str i) r => by simp only [List.map_cons]; rw [Rps.strs r]
  | _ :: _, [], h => nomatch h
theorem Rps.of_strs : ∀ (ns : List Str), Rps K G (ns.map V.str) (ns.map PyData.str)
  | [] => .nil
  | _ :: r => .cons (.str _) (Rps.of_strs r)
end

/-! ### trees -/
inductive T where
  | p (d : D)
  | sc (ns : List Int)
  | ml (ts : List T)
  | tp (ts : List T)
  | md (kvs : List (Key × D))
  | mk (a : Addr) (od : Obj) (kvs : List (Key × V)) (ds : List (Key × D))
  | ob (C : Addr) (fs : List (Str × T))
  | rf (a : Addr) (t : T)
/-- without the address that is told of it -/
def T.strip : T → T
  | .rf _ t => t.strip
  | t => t
/-- u in t's place, told of the same address -/
def T.wrap : T → T → T
  | .rf a t, u => .rf a (t.wrap u)
  | _, u => u
@[simp] theorem strip_p {d : D} : (T.p d).strip = .p d := rfl
@[simp] theorem strip_sc {ns : List Int} : (T.sc ns).strip = .sc ns := rfl
@[simp] theorem strip_ml {ts : List T} : (T.ml ts).strip = .ml ts := rfl
@[simp] theorem strip_tp {ts : List T} : (T.tp ts).strip = .tp ts := rfl
@[simp] theorem strip_md {ds : List (Key × D)} : (T.md ds).strip = .md ds := rfl
@[simp] theorem strip_mk {a : Addr} {od : Obj} {kvs : List (Key × V)} {ds : List (Key × D)} : (T.mk a od kvs ds).strip = .mk a od kvs ds := rfl
@[simp] theorem strip_ob {C : Addr} {fs : List (Str × T)} : (T.ob C fs).strip = .ob C fs := rfl
@[simp] theorem strip_rf {a : Addr} {t : T} : (T.rf a t).strip = t.strip := rfl
@[simp] theorem wrap_p {d : D} {u : T} : (T.p d).wrap u = u := rfl
@[simp] theorem wrap_ml {ts : List T} {u : T} : (T.ml ts).wrap u = u := rfl
@[simp] theorem wrap_tp {ts : List T} {u : T} : (T.tp ts).wrap u = u := rfl
@[simp] theorem wrap_md {ds : List (Key × D)} {u : T} : (T.md ds).wrap u = u := rfl
@[simp] theorem wrap_mk {a : Addr} {od : Obj} {kvs : List (Key × V)} {ds : List (Key × D)} {u : T} : (T.mk a od kvs ds).wrap u = u := rfl
@[simp] theorem wrap_ob {C : Addr} {fs : List (Str × T)} {u : T} : (T.ob C fs).wrap u = u := rfl
@[simp] theorem wrap_rf {a : Addr} {t u : T} : (T.rf a t).wrap u = .rf a (t.wrap u) := rfl

inductive KR (K : PySem.W.Frag) (G : Hp) : List (Key × V) → List (Key × D) → Prop
  | nil : KR K G [] []
  | cons {k : Key} {v : V} {r : List (Key × V)} {d : D} {ds : List (Key × D)} : Rp K G v d → KR K G r ds → KR K G ((k, v) :: r) ((k, d) :: ds)
theorem KR.mono {K : PySem.W.Frag} {G G' : Hp} (s : Same G G') : ∀ {v : List (Key × V)} {d : List (Key × D)}, KR K G v d → KR K G' v d
  | _, _, .nil => .nil
  | _, _, .cons h r => .cons (Rp.mono s h) (KR.mono s r)
theorem KR.rpk {K : PySem.W.Frag} {G : Hp} : ∀ {v : List (Key × V)} {d : List (Key × D)}, KR K G v d → Rpk K G v (d.map fun p => (keyD p.1, p.2))
  | _, _, .nil => .nil
  | _, _, .cons h r => .cons h (KR.rpk r)

mutual
inductive TR (K : PySem.W.Frag) (G H : Hp) : T → V → List Addr → Prop
  | p {d : D} {v : V} : Rp K G v d → TR K G H (.p d) v []
  | sc {ns : List Int} {a : Addr} : SqL K G a (ns.map V.int) → TR K G H (.sc ns) (.ref a) []
  | ml {ts : List T} {a : Addr} {vs : List V} {F : List Addr} : H a = some (.lst vs) → TRs K G H ts vs F → TR K G H (.ml ts) (.ref a) (a :: F)
  | tp {ts : List T} {a : Addr} {vs : List V} {F : List Addr} : H a = some (.tup vs) → TRs K G H ts vs F → TR K G H (.tp ts) (.ref a) (a :: F)
  | md {ds : List (Key × D)} {a : Addr} {kvs : List (Key × V)} : H a = some (.dK kvs) → KR K G kvs ds → TR K G H (.md ds) (.ref a) [a]
  | mk {ds : List (Key × D)} {a : Addr} {od : Obj} {kvs : List (Key × V)} : H a = some (.frz od (.dK kvs)) → KR K G kvs ds → TR K G H (.mk a od kvs ds) (.ref a) [a]
  | ob {C : Addr} {fs : List (Str × T)} {a dx : Addr} {vfs : List (Str × V)} {F : List Addr} : H a = some (.ins C dx vfs) → H dx = some (.own a) → TRf K G H fs vfs F → TR K G H (.ob C fs) (.ref a) (a :: dx :: F)
  | rf {a : Addr} {t : T} {F : List Addr} : TR K G H t (.ref a) F → TR K G H (.rf a t) (.ref a) F
inductive TRs (K : PySem.W.Frag) (G H : Hp) : List T → List V → List Addr → Prop
  | nil : TRs K G H [] [] []
  | cons {t : T} {v : V} {F F' : List Addr} {ts : List T} {vs : List V} : TR K G H t v F → TRs K G H ts vs F' → TRs K G H (t :: ts) (v :: vs) (F ++ F')
inductive TRf (K : PySem.W.Frag) (G H : Hp) : List (Str × T) → List (Str × V) → List Addr → Prop
  | nil : TRf K G H [] [] []
  | cons {x : Str} {t : T} {v : V} {F F' : List Addr} {ts : List (Str × T)} {vs : List (Str × V)} : TR K G H t v F → TRf K G H ts vs F' → TRf K G H ((x, t) :: ts) ((x, v) :: vs) (F ++ F')
end

/-- the objects at F stand -/
def Keep (F : List Addr) (H H' : Hp) : Prop := ∀ a ∈ F, ∀ o, H a = some o → H' a = some o
theorem Keep.of {F : List Addr} {H H' : Hp} (s : Same H H') : Keep F H H' := fun a _ o e => s a o e
theorem Keep.sub {F F' : List Addr} {H H' : Hp} (k : Keep F H H') (h : ∀ a ∈ F', a ∈ F) : Keep F' H H' := fun a ha o e => k a (h a ha) o e

mutual
theorem TR.keep {K : PySem.W.Frag} {G G' H H' : Hp} (s : Same G G') : ∀ {t : T} {v : V} {F : List Addr}, TR K G H t v F → Keep F H H' → TR K G' H' t v F
  | _, _, _, .p h, _ => .p (h.mono s)
  | _, _, _, .sc h, _ => .sc (s.seq h)
  | _, _, _, .ml h r, k => .ml (k _ List.mem_cons_self _ h) (TRs.keep s r (k.sub fun _ q => List.mem_cons_of_mem _ q))
  | _, _, _, .tp h r, k => .tp (k _ List.mem_cons_self _ h) (TRs.keep s r (k.sub fun _ q => List.mem_cons_of_mem _ q))
  | _, _, _, .md h r, k => .md (k _ List.mem_cons_self _ h) (r.mono s)
  | _, _, _, .mk h r, k => .mk (k _ List.mem_cons_self _ h) (r.mono s)
  | _, _, _, .ob h h2 r, k => .ob (k _ List.mem_cons_self _ h) (k _ (List.mem_cons_of_mem _ List.mem_cons_self) _ h2) (TRf.keep s r (k.sub fun _ q => List.mem_cons_of_mem _ (List.mem_cons_of_mem _ q)))
  | _, _, _, .rf r, k => .rf (TR.keep s r k)
theorem TRs.keep {K : PySem.W.Frag} {G G' H H' : Hp} (s : Same G G') : ∀ {t : List T} {v : List V} {F : List Addr}, TRs K G H t v F → Keep F H H' → TRs K G' H' t v F
  | _, _, _, .nil, _ => .nil
  | _, _, _, .cons h r, k => .cons (TR.keep s h (k.sub fun _ q => List.mem_append_left _ q)) (TRs.keep s r (k.sub fun _ q => List.mem_append_right _ q))
theorem TRf.keep {K : PySem.W.Frag} {G G' H H' : Hp} (s : Same G G') : ∀ {t : List (Str × T)} {v : List (Str × V)} {F : List Addr}, TRf K G H t v F → Keep F H H' → TRf K G' H' t v F
  | _, _, _, .nil, _ => .nil
  | _, _, _, .cons h r, k => .cons (TR.keep s h (k.sub fun _ q => List.mem_append_left _ q)) (TRf.keep s r (k.sub fun _ q => List.mem_append_right _ q))
end

mutual
/-- a tree as data -/
def T.snap : T → Option D
  | .p d => some d
  | .sc _ => none
  | .ml ts => (snaps ts).map PyData.list
  | .tp ts => (snaps ts).map PyData.tuple
  | .md kvs => some (.dict (kvs.map fun p => (keyD p.1, p.2)))
  | .mk _ _ _ _ => none
  | .ob _ _ => none
  | .rf _ t => T.snap t
def snaps : List T → Option (List D)
  | [] => some []
  | t :: r => (T.snap t).bind fun d => (snaps r).map fun ds => d :: ds
end
theorem snaps_p : ∀ ds : List D, snaps (ds.map T.p) = some ds
  | [] => by simp [snaps]
  | d :: r => by simp [snaps, T.snap, snaps_p r]

mutual
/-- a tree read as data over a heap that has what it leans on -/
theorem TR.data {K : PySem.W.Frag} {G H G' : Hp} (s : Same G G') : ∀ {t : T} {v : V} {F : List Addr} {d : D}, TR K G H t v F → Keep F H G' → t.snap = some d → Rp K G' v d
  | _, _, _, _, .p h, _, e => by
    simp only [T.snap, Option.some.injEq] at e; subst e; exact h.mono s
  | _, _, _, _, .sc _, _, e => by simp [T.snap] at e
  | _, _, _, _, .ml (ts := ts) h r, k, e => by
    simp only [T.snap, Option.map_eq_some_iff] at e
    obtain ⟨ds, e1, rfl⟩ := e
    exact .lst (k _ List.mem_cons_self _ h) (TRs.data s r (k.sub fun _ q => List.mem_cons_of_mem _ q) e1)
  | _, _, _, _, .tp (ts := ts) h r, k, e => by
    simp only [T.snap, Option.map_eq_some_iff] at e
    obtain ⟨ds, e1, rfl⟩ := e
    exact .tup (.inl (.inl (k _ List.mem_cons_self _ h))) (TRs.data s r (k.sub fun _ q => List.mem_cons_of_mem _ q) e1)
  | _, _, _, _, .md h r, k, e => by
    simp only [T.snap, Option.some.injEq] at e; subst e
    exact .dct (k _ List.mem_cons_self _ h) (r.mono s).rpk
  | _, _, _, _, .mk _ _, _, e => by simp [T.snap] at e
  | _, _, _, _, .ob _ _ _, _, e => by simp [T.snap] at e
  | _, _, _, _, .rf r, k, e => TR.data s r k (by simpa [T.snap] using e)
theorem TRs.data {K : PySem.W.Frag} {G H G' : Hp} (s : Same G G') : ∀ {t : List T} {v : List V} {F : List Addr} {d : List D}, TRs K G H t v F → Keep F H G' → snaps t = some d → Rps K G' v d
  | _, _, _, _, .nil, _, e => by simp [snaps] at e; subst e; exact .nil
  | _, _, _, _, .cons h r, k, e => by
    simp only [snaps, Option.bind_eq_some_iff, Option.map_eq_some_iff] at e
    obtain ⟨d, e1, ds, e2, rfl⟩ := e
    exact .cons (TR.data s h (k.sub fun _ q => List.mem_append_left _ q) e1) (TRs.data s r (k.sub fun _ q => List.mem_append_right _ q) e2)
end
/-- .. as it stands now -/
theorem TR.live {K : PySem.W.Frag} {G H : Hp} {t : T} {v : V} {F : List Addr} {d : D} (r : TR K G H t v F) (s : Same G H) (e : t.snap = some d) : Rp K H v d := r.data s (Keep.of (Same.refl H)) e

theorem TR.strip {K : PySem.W.Frag} {G H : Hp} : ∀ {t : T} {v : V} {F : List Addr}, TR K G H t v F → TR K G H t.strip v F
  | _, _, _, .p h => .p h
  | _, _, _, .sc h => .sc h
  | _, _, _, .ml h r => .ml h r
  | _, _, _, .tp h r => .tp h r
  | _, _, _, .md h r => .md h r
  | _, _, _, .mk h r => .mk h r
  | _, _, _, .ob h h2 r => .ob h h2 r
  | _, _, _, .rf r => r.strip
theorem TR.wrap {K : PySem.W.Frag} {G H G' H' : Hp} {u : T} {F' : List Addr} : ∀ {t : T} {v : V} {F : List Addr}, TR K G H t v F → TR K G' H' u v F' → TR K G' H' (t.wrap u) v F'
  | _, _, _, .p h, q => q
  | _, _, _, .sc h, q => q
  | _, _, _, .ml h r, q => q
  | _, _, _, .tp h r, q => q
  | _, _, _, .md h r, q => q
  | _, _, _, .mk h r, q => q
  | _, _, _, .ob h h2 r, q => q
  | _, _, _, .rf r, q => .rf (r.wrap q)
theorem TR.pure {K : PySem.W.Frag} {G H : Hp} {d : D} {v : V} {F : List Addr} (r : TR K G H (.p d) v F) : Rp K G v d := by
  cases r with
  | p h => exact h
theorem TR.pnil {K : PySem.W.Frag} {G H : Hp} {d : D} {v : V} {F : List Addr} (r : TR K G H (.p d) v F) : F = [] := by
  cases r with
  | p h => rfl
theorem TRs.pures {K : PySem.W.Frag} {G H : Hp} : ∀ {ds : List D} {vs : List V} {F : List Addr}, TRs K G H (ds.map T.p) vs F → Rps K G vs ds ∧ F = []
  | [], _, _, .nil => ⟨.nil, rfl⟩
  | _ :: r, _, _, .cons h t => by
    obtain ⟨h1, h2⟩ := TRs.pures (ds := r) t
    cases h with
    | p h => exact ⟨.cons h h1, by rw [h2]; rfl⟩
theorem TRs.of_pures {K : PySem.W.Frag} {G H : Hp} : ∀ {ds : List D} {vs : List V}, Rps K G vs ds → TRs K G H (ds.map T.p) vs []
  | _, _, .nil => .nil
  | _, _, .cons h r => by
    have q := TRs.cons (TR.p (H := H) h) (TRs.of_pures (H := H) r)
    exact q

/-! ### the slots -/
abbrev En := List (Option T)
inductive ES (K : PySem.W.Frag) (G H : Hp) : En → L2.St → List Addr → Prop
  | nil : ES K G H [] [] []
  | no {env : En} {σ : L2.St} {F : List Addr} {o : Option V} : ES K G H env σ F → ES K G H (none :: env) (o :: σ) F
  | so {env : En} {σ : L2.St} {F F' : List Addr} {t : T} {v : V} : TR K G H t v F → ES K G H env σ F' → ES K G H (some t :: env) (some v :: σ) (F ++ F')

section
variable {K : PySem.W.Frag} {G G' H H' : Hp}
theorem ES.keep (s : Same G G') : ∀ {env : En} {σ : L2.St} {F : List Addr}, ES K G H env σ F → Keep F H H' → ES K G' H' env σ F
  | _, _, _, .nil, _ => .nil
  | _, _, _, .no r, k => .no (ES.keep s r k)
  | _, _, _, .so h r, k => .so (h.keep s (k.sub fun _ q => List.mem_append_left _ q)) (ES.keep s r (k.sub fun _ q => List.mem_append_right _ q))
/-- slot i and the rest -/
theorem ES.split : ∀ {env : En} {σ : L2.St} {F : List Addr} {i : Nat} {t : T}, ES K G H env σ F → env[i]? = some (some t) →
    ∃ v F1 Fa Fb, σ[i]? = some (some v) ∧ TR K G H t v F1 ∧ F = Fa ++ (F1 ++ Fb) ∧
      (∀ G' H' t' v' F1', Same G G' → Keep (Fa ++ Fb) H H' → TR K G' H' t' v' F1' → ES K G' H' (env.set i (some t')) (σ.set i (some v')) (Fa ++ (F1' ++ Fb))) ∧
      (∀ G' H' t' F1', Same G G' → Keep (Fa ++ Fb) H H' → TR K G' H' t' v F1' → ES K G' H' (env.set i (some t')) σ (Fa ++ (F1' ++ Fb))) ∧
      (∀ G' H', Same G G' → Keep (Fa ++ Fb) H H' → ES K G' H' (env.set i none) σ (Fa ++ Fb))
  | _, _, _, 0, t, .so (F := F1) (F' := F2) h r, e => by
    simp only [List.getElem?_cons_zero, Option.some.injEq] at e
    subst e
    refine ⟨_, F1, [], F2, rfl, h, rfl, fun G' H' t' v' F1' s k q => ?_, fun G' H' t' F1' s k q => ?_, fun G' H' s k => ?_⟩
    · rw [List.nil_append]; exact .so q (r.keep s k)
    · rw [List.nil_append]; exact .so q (r.keep s k)
    · exact .no (r.keep s k)
  | _, _, _, 0, t, .no r, e => by simp at e
  | _, _, _, i + 1, t, .no r, e => by
    obtain ⟨v, F1, Fa, Fb, h1, h2, h3, h4, h5, h6⟩ := ES.split (i := i) (t := t) r (by simpa using e)
    exact ⟨v, F1, Fa, Fb, by simpa using h1, h2, h3, fun G' H' t' v' F1' s k q => .no (h4 G' H' t' v' F1' s k q), fun G' H' t' F1' s k q => .no (h5 G' H' t' F1' s k q), fun G' H' s k => .no (h6 G' H' s k)⟩
  | _, _, _, i + 1, t, .so (F := F0) h r, e => by
    obtain ⟨v, F1, Fa, Fb, h1, h2, h3, h4, h5, h6⟩ := ES.split (i := i) (t := t) r (by simpa using e)
    have kA : ∀ {H' : Hp}, Keep (F0 ++ Fa ++ Fb) H H' → Keep F0 H H' ∧ Keep (Fa ++ Fb) H H' := fun k =>
      ⟨k.sub fun _ q => List.mem_append_left _ (List.mem_append_left _ q), k.sub fun _ q => by rw [List.append_assoc]; exact List.mem_append_right _ q⟩
    refine ⟨v, F1, F0 ++ Fa, Fb, by simpa using h1, h2, by rw [h3, List.append_assoc], fun G' H' t' v' F1' s k q => ?_, fun G' H' t' F1' s k q => ?_, fun G' H' s k => ?_⟩
    · rw [List.append_assoc]
      exact .so (h.keep s (kA k).1) (h4 G' H' t' v' F1' s (kA k).2 q)
    · rw [List.append_assoc]
      exact .so (h.keep s (kA k).1) (h5 G' H' t' F1' s (kA k).2 q)
    · rw [List.append_assoc]
      exact .so (h.keep s (kA k).1) (h6 G' H' s (kA k).2)
/-- a slot is given a new tree: the old one is forgotten -/
theorem ES.put {t : T} {v : V} {F1 : List Addr} (q : TR K G H t v F1) : ∀ {env : En} {σ : L2.St} {F : List Addr} (i : Nat), ES K G H env σ F →
    ∃ F', ES K G H (env.set i (some t)) (σ.set i (some v)) F' ∧ ((∀ a ∈ F', a ∈ F1 ∨ a ∈ F)) ∧ (F.Nodup → F1.Nodup → (∀ a ∈ F1, a ∉ F) → F'.Nodup)
  | _, _, _, _, .nil => ⟨[], .nil, fun _ z => .inr z, fun h _ _ => h⟩
  | _, _, _, 0, .no r => ⟨_, .so q r, fun a h => List.mem_append.mp h, fun h1 h2 h3 => List.nodup_append.mpr ⟨h2, h1, fun a ha b hb e => h3 a ha (e ▸ hb)⟩⟩
  | _, _, _, 0, .so h r => ⟨_, .so q r, fun a h => (List.mem_append.mp h).imp_right fun z => List.mem_append_right _ z, fun h1 h2 h3 =>
      List.nodup_append.mpr ⟨h2, (List.nodup_append.mp h1).2.1, fun a ha b hb e => h3 a ha (e ▸ List.mem_append_right _ hb)⟩⟩
  | _, _, _, i + 1, .no r => by
    obtain ⟨F', h1, h2, h3⟩ := ES.put q i r
    exact ⟨F', .no h1, h2, h3⟩
  | _, _, _, i + 1, .so (F := F0) (F' := Fr) h r => by
    obtain ⟨F', h1, h2, h3⟩ := ES.put q i r
    refine ⟨F0 ++ F', .so h h1, fun a ha => ?_, fun n1 n2 n3 => ?_⟩
    · rcases List.mem_append.mp ha with z | z
      · exact .inr (List.mem_append_left _ z)
      · exact (h2 a z).imp_right fun z => List.mem_append_right _ z
    · obtain ⟨m1, m2, m3⟩ := List.nodup_append.mp n1
      refine List.nodup_append.mpr ⟨m1, h3 m2 n2 fun a ha z => n3 a ha (List.mem_append_right _ z), fun a ha b hb e => ?_⟩
      subst e
      rcases h2 a hb with z | z
      · exact n3 a z (List.mem_append_left _ ha)
      · exact m3 a ha a z rfl
theorem ES.length : ∀ {env : En} {σ : L2.St} {F : List Addr}, ES K G H env σ F → env.length = σ.length
  | _, _, _, .nil => rfl
  | _, _, _, .no r => by simp [ES.length r]
  | _, _, _, .so _ r => by simp [ES.length r]
/-- a slot forgotten (its value or not) -/
theorem ES.drop : ∀ {env : En} {σ : L2.St} {F : List Addr} (i : Nat) (o : Option V), ES K G H env σ F → ∃ F', ES K G H (env.set i none) (σ.set i o) F' ∧ F'.Sublist F
  | _, _, _, _, _, .nil => ⟨[], .nil, .slnil⟩
  | _, _, _, 0, _, .no r => ⟨_, .no r, List.Sublist.refl _⟩
  | _, _, _, 0, _, .so h r => ⟨_, .no r, List.sublist_append_right _ _⟩
  | _, _, _, i + 1, o, .no r => by
    obtain ⟨F', h1, h2⟩ := ES.drop i o r
    exact ⟨F', .no h1, h2⟩
  | _, _, _, i + 1, o, .so h r => by
    obtain ⟨F', h1, h2⟩ := ES.drop i o r
    exact ⟨_, .so h h1, List.Sublist.append (List.Sublist.refl _) h2⟩
end

/-! ### what an evaluation keeps -/
structure Ext (G H G' H' : Hp) : Prop where
  gg : Same G G'
  hh : Same H H'
  gh : Same G' H'
  fr : ∀ a, G' a ≠ none → G a ≠ none ∨ H a = none
theorem Ext.refl {G H : Hp} (s : Same G H) : Ext G H G H := ⟨Same.refl G, Same.refl H, s, fun _ h => .inl h⟩
theorem Ext.trans {G H G1 H1 G2 H2 : Hp} (a : Ext G H G1 H1) (b : Ext G1 H1 G2 H2) : Ext G H G2 H2 :=
  ⟨a.gg.trans b.gg, a.hh.trans b.hh, b.gh, fun x h => by
    rcases b.fr x h with z | z
    · exact a.fr x z
    · exact .inr (a.hh.free z)⟩
structure Rel (K : PySem.W.Frag) (G H : Hp) (env : En) (σ : L2.St) (F : List Addr) : Prop where
  es : ES K G H env σ F
  nd : F.Nodup
  fr : ∀ a ∈ F, G a = none ∧ H a ≠ none
  sm : Same G H
theorem Rel.ext {K : PySem.W.Frag} {G H G' H' : Hp} {env : En} {σ : L2.St} {F : List Addr} (r : Rel K G H env σ F) (e : Ext G H G' H') : Rel K G' H' env σ F :=
  ⟨r.es.keep e.gg (Keep.of e.hh), r.nd, fun a ha => by
    obtain ⟨h1, h2⟩ := r.fr a ha
    refine ⟨?_, ?_⟩
    · cases q : G' a with
      | none => rfl
      | some o =>
        rcases e.fr a (by rw [q]; exact Option.some_ne_none o) with z | z
        · exact absurd h1 z
        · exact absurd z h2
    · cases q : H a with
      | none => exact absurd q h2
      | some o => rw [e.hh a o q]; exact Option.some_ne_none o, e.gh⟩

/-- a new object that is frozen at once -/
theorem same_upd {H : Hp} {p : Addr} {o : HO} (h : H p = none) : Same H (upd H p o) := fun b x e => by
  rw [upd_ne (ne_of_none e h)]; exact e
theorem same_upd2 {G H : Hp} {p : Addr} {o : HO} (s : Same G H) : Same (upd G p o) (upd H p o) := fun b x e => by
  by_cases q : b = p
  · subst q; rw [upd_same] at e ⊢; exact e
  · rw [upd_ne q] at e ⊢; exact s b x e
theorem Ext.new {G H : Hp} {p : Addr} {o : HO} (s : Same G H) (h : H p = none) : Ext G H (upd G p o) (upd H p o) :=
  ⟨same_upd (s.free h), same_upd h, same_upd2 s, fun a q => by
    by_cases e : a = p
    · subst e; exact .inr h
    · rw [upd_ne e] at q; exact .inl q⟩
/-- a new object that is not frozen -/
theorem Ext.fresh {G H : Hp} {p : Addr} {o : HO} (s : Same G H) (h : H p = none) : Ext G H G (upd H p o) :=
  ⟨Same.refl G, same_upd h, s.trans (same_upd h), fun _ q => .inl q⟩
end M
/-! M2: expressions. -/
namespace M
open PySem PySem.Spec PyProof.Rows L2

abbrev EM := En → Option T
def LIM : Nat := 1000000
theorem LIM_line : LIM ≤ sizeLine := by rw [sizeLine_eq]; decide
theorem PE_imp {X : Cx} {e : Expr} {t t' : TE} (h : PE X e t) (i : ∀ σ H Q, t' σ H Q → t σ H Q) : PE X e t' := ⟨fun pins s σ H Q I q => h.run pins s σ H Q I (i σ H Q q)⟩
theorem PT_imp {X : Cx} {e : Expr} {t t' : TT} (h : PT X e t) (i : ∀ σ H Q, t' σ H Q → t σ H Q) : PT X e t' := ⟨fun pins s σ H Q I q => h.run pins s σ H Q I (i σ H Q q)⟩
theorem PW_imp {X : Cx} {e : Expr} {t t' : TT} (h : PW X e t) (i : ∀ σ H Q, t' σ H Q → t σ H Q) : PW X e t' := ⟨fun wh pins s σ H Q I q => h.run wh pins s σ H Q I (i σ H Q q)⟩
theorem PA_imp {X : Cx} {e : List Expr} {t t' : TA} (h : PA X e t) (i : ∀ σ H Q, t' σ H Q → t σ H Q) : PA X e t' := ⟨fun pos pins s σ H Q I q => h.run pos pins s σ H Q I (i σ H Q q)⟩

def tM (K : PySem.W.Frag) (m : EM) : TE := fun σ H Q => ∃ G env F, Rel K G H env σ F ∧ ∃ t, m env = some t ∧ ∀ v H' G' F', Ext G H G' H' → TR K G' H' t v F' → Q v H'
abbrev PM (X : Cx) (e : Expr) (m : EM) : Prop := PE X e (tM X.K m)
def tTM (K : PySem.W.Frag) (m : En → Option Bool) : TT := fun σ H Q => ∃ G env F, Rel K G H env σ F ∧ ∃ b, m env = some b ∧ ∀ H' G', Ext G H G' H' → Q b H'
abbrev PTM (X : Cx) (e : Expr) (m : En → Option Bool) : Prop := PT X e (tTM X.K m)
abbrev PWM (X : Cx) (e : Expr) (m : En → Option Bool) : Prop := PW X e (tTM X.K m)
inductive Args (K : PySem.W.Frag) (G H : Hp) : List T → List V → Prop
  | nil : Args K G H [] []
  | cons {t : T} {v : V} {F : List Addr} {ts : List T} {vs : List V} : TR K G H t v F → Args K G H ts vs → Args K G H (t :: ts) (v :: vs)
theorem Args.ext {K : PySem.W.Frag} {G H G' H' : Hp} (e : Ext G H G' H') : ∀ {ts : List T} {vs : List V}, Args K G H ts vs → Args K G' H' ts vs
  | _, _, .nil => .nil
  | _, _, .cons h r => .cons (h.keep e.gg (Keep.of e.hh)) (r.ext e)
theorem Args.length {K : PySem.W.Frag} {G H : Hp} : ∀ {ts : List T} {vs : List V}, Args K G H ts vs → ts.length = vs.length
  | _, _, .nil => rfl
  | _, _, .cons h r => by simp [r.length]
theorem Args.get {K : PySem.W.Frag} {G H : Hp} : ∀ {ts : List T} {vs : List V} {i : Nat} {t : T}, Args K G H ts vs → ts[i]? = some t → ∃ v F, vs[i]? = some v ∧ TR K G H t v F
  | _, _, _, _, .nil, e => by simp at e
  | _, _, 0, _, .cons h _, e => by simp at e; subst e; exact ⟨_, _, rfl, h⟩
  | _, _, i + 1, t, .cons _ r, e => by
    obtain ⟨v, F, h1, h2⟩ := Args.get (i := i) (t := t) r (by simpa using e)
    exact ⟨v, F, by simpa using h1, h2⟩
theorem TRs.args {K : PySem.W.Frag} {G H : Hp} : ∀ {ts : List T} {vs : List V} {F : List Addr}, TRs K G H ts vs F → Args K G H ts vs
  | _, _, _, .nil => .nil
  | _, _, _, .cons h r => .cons h (TRs.args r)
theorem Rps.args {K : PySem.W.Frag} {G H : Hp} : ∀ {ds : List D} {vs : List V}, Rps K G vs ds → Args K G H (ds.map T.p) vs
  | _, _, .nil => .nil
  | _, _, .cons h r => .cons (.p h) (Rps.args r)
def tAM (K : PySem.W.Frag) (m : En → Option (List T)) : TA := fun σ H Q => ∃ G env F, Rel K G H env σ F ∧ ∃ ts, m env = some ts ∧ ∀ vs H' G', Ext G H G' H' → Args K G' H' ts vs → Q vs H'
abbrev PAM (X : Cx) (es : List Expr) (m : En → Option (List T)) : Prop := PA X es (tAM X.K m)

/-! ### what operators, calls mean on trees -/
def R2M (K : PySem.W.Frag) (r : R2) (f : T → T → Option T) : Prop := ∀ (G H : Hp) (t1 t2 t : T) (x y : V) (F1 F2 : List Addr), f t1 t2 = some t → Same G H → TR K G H t1 x F1 → TR K G H t2 y F2 →
  ∀ Q : VK, (∀ v H' G' F', Ext G H G' H' → TR K G' H' t v F' → Q v H') → r x y H Q
def CM (K : PySem.W.Frag) (r : List V → Hp → VK → Prop) (f : List T → Option T) : Prop := ∀ (G H : Hp) (ts : List T) (t : T) (xs : List V), f ts = some t → Same G H → Args K G H ts xs →
  ∀ Q : VK, (∀ v H' G' F', Ext G H G' H' → TR K G' H' t v F' → Q v H') → r xs H Q

/-! ### mirrors -/
def mVar (i : Nat) : EM := fun env => ((env[i]?).join).map T.strip
def mC (d : D) : EM := fun _ => some (.p d)
def mOp (f : T → T → Option T) (a b : EM) : EM := fun env => (a env).bind fun x => (b env).bind fun y => f x y
def mCall (f : List T → Option T) (as : En → Option (List T)) : EM := fun env => (as env).bind f
def aNil : En → Option (List T) := fun _ => some []
def aCons (a : EM) (as : En → Option (List T)) : En → Option (List T) := fun env => (a env).bind fun x => (as env).map fun xs => x :: xs
def T.bool? : T → Option Bool
  | .p (.bool b) => some b
  | _ => none
def bVal (m : EM) : En → Option Bool := fun env => (m env).bind T.bool?
def bOp (f : T → T → Option T) (a b : EM) : En → Option Bool := bVal (mOp f a b)
def bAnd (a b : En → Option Bool) : En → Option Bool := fun env => (a env).bind fun x => if x then b env else some false
def bOr (a b : En → Option Bool) : En → Option Bool := fun env => (a env).bind fun x => if x then some true else b env
def bNot (a : En → Option Bool) : En → Option Bool := fun env => (a env).map fun x => !x
def mB (a : En → Option Bool) : EM := fun env => (a env).map fun b => .p (.bool b)
def mAnd (a b : EM) : EM := fun env => (a env).bind fun x => x.bool?.bind fun c => if c then b env else some (.p (.bool false))
def mOr (a b : EM) : EM := fun env => (a env).bind fun x => x.bool?.bind fun c => if c then some (.p (.bool true)) else b env
def mNot (a : EM) : EM := fun env => (a env).bind fun x => x.bool?.map fun c => .p (.bool !c)
def mIf (c : En → Option Bool) (a b : EM) : EM := fun env => (c env).bind fun x => if x then a env else b env
def mChain (f g : T → T → Option T) (a b c : EM) : EM := fun env => (a env).bind fun x => (b env).bind fun y => (f x y).bind fun z => z.bool?.bind fun k => if k then (c env).bind fun u => g y u else some (.p (.bool false))

theorem TR.bool {K : PySem.W.Frag} {G H : Hp} {t : T} {v : V} {F : List Addr} {b : Bool} (r : TR K G H t v F) (e : t.bool? = some b) : v = .bl b ∧ t = .p (.bool b) := by
  cases r with
  | p h =>
    cases h with
    | bl c => simp [T.bool?] at e; subst e; exact ⟨rfl, rfl⟩
    | _ => simp [T.bool?] at e
  | _ => simp [T.bool?] at e

section
variable {X : Cx}
theorem pm_var (i : Nat) {x : Str} {pos : Pos} (hN : X.N[i]? = some x := by rfl) (hv : Vis X.env.scope x := by first | exact Or.inl rfl | exact Or.inr (Or.inl rfl) | exact Or.inr (Or.inr rfl)) (hd : (x == ("__debug__" : Str)) = false := by decide)
    (hcd : (x == ("__classdict__" : Str)) = false := by decide) : PM X (.Name x pos) (mVar i) := by
  refine PE_imp (pe_var hN hv hd hcd) fun σ H Q h => ?_
  obtain ⟨G, env, F, rel, t, e, q⟩ := h
  obtain ⟨t0, e', rfl⟩ : ∃ t0, env[i]? = some (some t0) ∧ t0.strip = t := by
    unfold mVar at e
    cases z : env[i]? with
    | none => rw [z] at e; cases e
    | some o =>
      rw [z] at e
      cases o with
      | none => cases e
      | some t0 => cases e; exact ⟨t0, rfl, rfl⟩
  obtain ⟨v, F1, Fa, Fb, h1, h2, _⟩ := rel.es.split e'
  exact ⟨v, h1, q v H G F1 (Ext.refl rel.sm) h2.strip⟩
theorem pm_c {e : Expr} {v : V} {d : D} (h : PE X e (tC v)) (r : ∀ G, Rp X.K G v d) : PM X e (mC d) := by
  refine PE_imp h fun σ H Q h => ?_
  obtain ⟨G, env, F, rel, t, e, q⟩ := h
  cases e
  exact q v H G [] (Ext.refl rel.sm) (.p (r G))
theorem pm_int {i j pos} : PM X (.Constant (.int i) j pos) (mC (.int i)) := pm_c pe_int fun _ => .int i
theorem pm_bl {b j pos} : PM X (.Constant (.bool b) j pos) (mC (.bool b)) := pm_c pe_bl fun _ => .bl b
theorem pm_non {j pos} : PM X (.Constant .none j pos) (mC .none) := pm_c pe_non fun _ => .non
theorem pm_str {x j pos} : PM X (.Constant (.str x) j pos) (mC (.str x)) := pm_c pe_str fun _ => .str x
theorem pm_globInt {x : Str} {pos : Pos} {i : Int} {t : Tok} (hg : Gl X x) (hm : X.mg x = some (.int i t)) (hd : (x == ("__debug__" : Str)) = false := by decide) : PM X (.Name x pos) (mC (.int i)) := pm_c (v := .int i) (pe_glob hg hm ⟨_, rfl⟩ hd) fun _ => .int i
theorem pm_globStr {x : Str} {pos : Pos} {i : Str} {t : Tok} (hg : Gl X x) (hm : X.mg x = some (.str i t)) (hd : (x == ("__debug__" : Str)) = false := by decide) : PM X (.Name x pos) (mC (.str i)) := pm_c (v := .str i) (pe_glob hg hm ⟨_, rfl⟩ hd) fun _ => .str i

variable {a b c : Expr} {ma mb mc : EM} {pos : Pos}
theorem tOpM {K : PySem.W.Frag} {r : R2} {f : T → T → Option T} (hl : R2M K r f) {σ : L2.St} {H : Hp} {Q : VK} (h : tM K (mOp f ma mb) σ H Q) : tOp r (tM K ma) (tM K mb) σ H Q := by
  obtain ⟨G, env, F, rel, t, e, q⟩ := h
  simp only [mOp, Option.bind_eq_some_iff] at e
  obtain ⟨t1, e1, t2, e2, e3⟩ := e
  refine ⟨G, env, F, rel, t1, e1, fun x H1 G1 F1 x1 r1 => ?_⟩
  refine ⟨G1, env, F, rel.ext x1, t2, e2, fun y H2 G2 F2 x2 r2 => ?_⟩
  exact hl G2 H2 t1 t2 t x y F1 F2 e3 x2.gh (r1.keep x2.gg (Keep.of x2.hh)) r2 Q fun v H' G' F' x3 r3 => q v H' G' F' ((x1.trans x2).trans x3) r3
theorem pm_op {op : Operator} {r : R2} {f : T → T → Option T} (ho : OpR X (binaryOp op) r) (hl : R2M X.K r f) (ha : PM X a ma) (hb : PM X b mb) : PM X (.BinOp a op b pos) (mOp f ma mb) :=
  PE_imp (pe_op ho ha hb) fun _ _ _ h => tOpM hl h
theorem pm_cmp {op : CmpOp} {r : R2} {f : T → T → Option T} (ho : OpR X (compareOp op) r) (hl : R2M X.K r f) (ha : PM X a ma) (hb : PM X b mb) (hm : behindInMarks op b = false) : PM X (.Compare a [op] [b] pos) (mOp f ma mb) :=
  PE_imp (pe_cmpR ho ha hb hm) fun _ _ _ h => tOpM hl h
theorem pm_ix {r : R2} {f : T → T → Option T} (ho : IxR X r) (hl : R2M X.K r f) (ha : PM X a ma) (hb : PM X b mb) (hs : PlainIx b) : PM X (.Subscript a b pos) (mOp f ma mb) :=
  PE_imp (pe_ix ho ha hb hs) fun _ _ _ h => tOpM hl h
theorem tBM {K : PySem.W.Frag} {m : EM} {σ : L2.St} {H : Hp} {Q : Bool → Hp → Prop} (h : tTM K (bVal m) σ H Q) : tM K m σ H fun x H1 => ∃ k, x = .bl k ∧ Q k H1 := by
  obtain ⟨G, env, F, rel, b, e, q⟩ := h
  simp only [bVal, Option.bind_eq_some_iff] at e
  obtain ⟨t, e1, e2⟩ := e
  refine ⟨G, env, F, rel, t, e1, fun v H' G' F' x r => ?_⟩
  obtain ⟨rfl, _⟩ := r.bool e2
  exact ⟨b, rfl, q H' G' x⟩
theorem ptm_cmp {op : CmpOp} {r : R2} {f : T → T → Option T} (ho : OpR X (compareOp op) r) (hl : R2M X.K r f) (ha : PM X a ma) (hb : PM X b mb) (hm : behindInMarks op b = false) : PTM X (.Compare a [op] [b] pos) (bOp f ma mb) := by
  refine PT_imp (pt_cmpR ho ha hb hm) fun σ H Q h => ?_
  exact tOpM hl (Q := fun x H' => ∃ k, x = .bl k ∧ Q k H') (tBM h)
theorem ptm_val {e : Expr} {m : EM} (h : PM X e m) (he : ∀ whole, isTrue e X.env whole = (do let v ← whole; standAt e.pos; holding [v] (truthy v)) := by intro _; rfl) : PTM X e (bVal m) :=
  PT_imp (pt_val h he) fun σ H Q q => tBM q
theorem ptm_not {m : En → Option Bool} (h : PTM X a m) : PTM X (.UnaryOp .Not a pos) (bNot m) := by
  refine PT_imp (pt_not h) fun σ H Q q => ?_
  obtain ⟨G, env, F, rel, b, e, q⟩ := q
  simp only [bNot, Option.map_eq_some_iff] at e
  obtain ⟨x, e1, rfl⟩ := e
  exact ⟨G, env, F, rel, x, e1, fun H' G' x1 => q H' G' x1⟩
variable {rest : List Expr} {m m' : En → Option Bool}
theorem pwm_and1 (h : PTM X a m) : PWM X (.BoolOp .And [a] pos) m := pw_and1 h
theorem pwm_or1 (h : PTM X a m) : PWM X (.BoolOp .Or [a] pos) m := pw_or1 h
theorem pwm_and (h : PTM X a m) (h' : PWM X (.BoolOp .And (b :: rest) pos) m') : PWM X (.BoolOp .And (a :: b :: rest) pos) (bAnd m m') := by
  refine PW_imp (pw_and h h') fun σ H Q q => ?_
  obtain ⟨G, env, F, rel, k, e, q⟩ := q
  simp only [bAnd, Option.bind_eq_some_iff] at e
  obtain ⟨x, e1, e2⟩ := e
  refine ⟨G, env, F, rel, x, e1, fun H' G' x1 => ?_⟩
  cases x with
  | true =>
    rw [if_pos rfl] at e2 ⊢
    exact ⟨G', env, F, rel.ext x1, k, e2, fun H2 G2 x2 => q H2 G2 (x1.trans x2)⟩
  | false =>
    rw [if_neg Bool.false_ne_true] at e2 ⊢
    cases e2
    exact q H' G' x1
theorem pwm_or (h : PTM X a m) (h' : PWM X (.BoolOp .Or (b :: rest) pos) m') : PWM X (.BoolOp .Or (a :: b :: rest) pos) (bOr m m') := by
  refine PW_imp (pw_or h h') fun σ H Q q => ?_
  obtain ⟨G, env, F, rel, k, e, q⟩ := q
  simp only [bOr, Option.bind_eq_some_iff] at e
  obtain ⟨x, e1, e2⟩ := e
  refine ⟨G, env, F, rel, x, e1, fun H' G' x1 => ?_⟩
  cases x with
  | true =>
    rw [if_pos rfl] at e2 ⊢
    cases e2
    exact q H' G' x1
  | false =>
    rw [if_neg Bool.false_ne_true] at e2 ⊢
    exact ⟨G', env, F, rel.ext x1, k, e2, fun H2 G2 x2 => q H2 G2 (x1.trans x2)⟩
theorem ptm_w {e : Expr} (h : PWM X e m) : PTM X e m := h.pt
/-! and, or, not as values -/
theorem pm_one {op : BoolOp} (h : PM X a ma) : PM X (.BoolOp op [a] pos) ma := pe_one h
theorem pm_and (ha : PM X a ma) (hb : PM X (.BoolOp .And (b :: rest) pos) mb) : PM X (.BoolOp .And (a :: b :: rest) pos) (mAnd ma mb) := by
  refine PE_imp (pe_and ha hb) fun σ H Q q => ?_
  obtain ⟨G, env, F, rel, t, e, q⟩ := q
  simp only [mAnd, Option.bind_eq_some_iff] at e
  obtain ⟨x, e1, k, e2, e3⟩ := e
  refine ⟨G, env, F, rel, x, e1, fun v H' G' F' x1 r => ?_⟩
  obtain ⟨rfl, _⟩ := r.bool e2
  refine ⟨k, rfl, ?_⟩
  cases k with
  | true =>
    rw [if_pos rfl] at e3 ⊢
    exact ⟨G', env, F, rel.ext x1, t, e3, fun v H2 G2 F2 x2 r2 => q v H2 G2 F2 (x1.trans x2) r2⟩
  | false =>
    rw [if_neg Bool.false_ne_true] at e3 ⊢
    cases e3
    exact q _ H' G' [] x1 (.p (.bl false))
theorem pm_or (ha : PM X a ma) (hb : PM X (.BoolOp .Or (b :: rest) pos) mb) : PM X (.BoolOp .Or (a :: b :: rest) pos) (mOr ma mb) := by
  refine PE_imp (pe_or ha hb) fun σ H Q q => ?_
  obtain ⟨G, env, F, rel, t, e, q⟩ := q
  simp only [mOr, Option.bind_eq_some_iff] at e
  obtain ⟨x, e1, k, e2, e3⟩ := e
  refine ⟨G, env, F, rel, x, e1, fun v H' G' F' x1 r => ?_⟩
  obtain ⟨rfl, _⟩ := r.bool e2
  refine ⟨k, rfl, ?_⟩
  cases k with
  | false =>
    rw [if_neg Bool.false_ne_true] at e3 ⊢
    exact ⟨G', env, F, rel.ext x1, t, e3, fun v H2 G2 F2 x2 r2 => q v H2 G2 F2 (x1.trans x2) r2⟩
  | true =>
    rw [if_pos rfl] at e3 ⊢
    cases e3
    exact q _ H' G' [] x1 (.p (.bl true))
theorem pm_not (ha : PM X a ma) : PM X (.UnaryOp .Not a pos) (mNot ma) := by
  refine PE_imp (pe_not ha) fun σ H Q q => ?_
  obtain ⟨G, env, F, rel, t, e, q⟩ := q
  simp only [mNot, Option.bind_eq_some_iff, Option.map_eq_some_iff] at e
  obtain ⟨x, e1, k, e2, rfl⟩ := e
  refine ⟨G, env, F, rel, x, e1, fun v H' G' F' x1 r => ?_⟩
  obtain ⟨rfl, _⟩ := r.bool e2
  exact ⟨k, rfl, q _ H' G' [] x1 (.p (.bl _))⟩
theorem pm_ifExp (hc : PTM X c m) (ha : PM X a ma) (hb : PM X b mb) : PM X (.IfExp c a b pos) (mIf m ma mb) := by
  refine PE_imp (pe_ifExp hc ha hb) fun σ H Q q => ?_
  obtain ⟨G, env, F, rel, t, e, q⟩ := q
  simp only [mIf, Option.bind_eq_some_iff] at e
  obtain ⟨x, e1, e2⟩ := e
  refine ⟨G, env, F, rel, x, e1, fun H' G' x1 => ?_⟩
  cases x with
  | true =>
    rw [if_pos rfl] at e2 ⊢
    exact ⟨G', env, F, rel.ext x1, t, e2, fun v H2 G2 F2 x2 r2 => q v H2 G2 F2 (x1.trans x2) r2⟩
  | false =>
    rw [if_neg Bool.false_ne_true] at e2 ⊢
    exact ⟨G', env, F, rel.ext x1, t, e2, fun v H2 G2 F2 x2 r2 => q v H2 G2 F2 (x1.trans x2) r2⟩
theorem tChainM {K : PySem.W.Frag} {r r' : R2} {f g : T → T → Option T} (hl : R2M K r f) (hl' : R2M K r' g) {σ : L2.St} {H : Hp} {Q : VK} (h : tM K (mChain f g ma mb mc) σ H Q) : tChain r r' (tM K ma) (tM K mb) (tM K mc) σ H Q := by
  obtain ⟨G, env, F, rel, t, e, q⟩ := h
  simp only [mChain, Option.bind_eq_some_iff] at e
  obtain ⟨t1, e1, t2, e2, t3, e3, k, e4, e5⟩ := e
  refine ⟨G, env, F, rel, t1, e1, fun x H1 G1 F1 x1 r1 => ?_⟩
  refine ⟨G1, env, F, rel.ext x1, t2, e2, fun y H2 G2 F2 x2 r2 => ?_⟩
  refine hl G2 H2 t1 t2 t3 x y F1 F2 e3 x2.gh (r1.keep x2.gg (Keep.of x2.hh)) r2 _ fun v H3 G3 F3 x3 r3 => ?_
  obtain ⟨rfl, _⟩ := r3.bool e4
  refine ⟨k, rfl, ?_⟩
  cases k with
  | true =>
    rw [if_pos rfl] at e5 ⊢
    simp only [Option.bind_eq_some_iff] at e5
    obtain ⟨t4, e6, e7⟩ := e5
    refine ⟨G3, env, F, ((rel.ext x1).ext x2).ext x3, t4, e6, fun z H4 G4 F4 x4 r4 => ?_⟩
    have x34 := x3.trans x4
    exact hl' G4 H4 t2 t4 t y z F2 F4 e7 x4.gh (r2.keep x34.gg (Keep.of x34.hh)) r4 Q fun v H' G' F' x5 r5 => q v H' G' F' (((x1.trans x2).trans x34).trans x5) r5
  | false =>
    rw [if_neg Bool.false_ne_true] at e5 ⊢
    cases e5
    exact q _ H3 G3 [] ((x1.trans x2).trans x3) (.p (.bl false))
theorem pm_chain {op op' : CmpOp} {r r' : R2} {f g : T → T → Option T} (ho : OpR X (compareOp op) r) (hl : R2M X.K r f) (ho' : OpR X (compareOp op') r') (hl' : R2M X.K r' g) (ha : PM X a ma) (hb : PM X b mb) (hc : PM X c mc) (h1 : lastMarks [op, op'] [b, c] = false := by rfl) :
    PM X (.Compare a [op, op'] [b, c] pos) (mChain f g ma mb mc) := PE_imp (pe_chain ho ho' ha hb hc h1) fun _ _ _ h => tChainM hl hl' h
theorem ptm_chain {op op' : CmpOp} {r r' : R2} {f g : T → T → Option T} (ho : OpR X (compareOp op) r) (hl : R2M X.K r f) (ho' : OpR X (compareOp op') r') (hl' : R2M X.K r' g) (ha : PM X a ma) (hb : PM X b mb) (hc : PM X c mc) (h1 : lastMarks [op, op'] [b, c] = false := by rfl) :
    PTM X (.Compare a [op, op'] [b, c] pos) (bVal (mChain f g ma mb mc)) :=
  PT_imp (pt_chain ho ho' ha hb hc h1) fun σ H Q h => tChainM hl hl' (Q := fun x H' => ∃ k, x = .bl k ∧ Q k H') (tBM h)
/-! arguments, calls of built-ins -/
variable {e : Expr} {es : List Expr} {me : EM} {ms : En → Option (List T)}
theorem pam_nil : PAM X [] aNil := by
  refine PA_imp pa_nil fun σ H Q h => ?_
  obtain ⟨G, env, F, rel, ts, e, q⟩ := h
  cases e
  exact q [] H G (Ext.refl rel.sm) .nil
theorem pam_cons (ha : PM X e me) (hr : PAM X es ms) (hs : starEach (e :: es) X.env = (false, eval e X.env) :: starEach es X.env := by rfl) : PAM X (e :: es) (aCons me ms) := by
  refine PA_imp (pa_cons ha hr hs) fun σ H Q h => ?_
  obtain ⟨G, env, F, rel, ts, e1, q⟩ := h
  simp only [aCons, Option.bind_eq_some_iff, Option.map_eq_some_iff] at e1
  obtain ⟨t, e2, tr, e3, rfl⟩ := e1
  refine ⟨G, env, F, rel, t, e2, fun x H1 G1 F1 x1 r1 => ?_⟩
  refine ⟨G1, env, F, rel.ext x1, tr, e3, fun ys H2 G2 x2 r2 => ?_⟩
  exact q (x :: ys) H2 G2 (x1.trans x2) (.cons (r1.keep x2.gg (Keep.of x2.hh)) r2)
theorem tCBM {K : PySem.W.Frag} {r : List V → Hp → VK → Prop} {f : List T → Option T} (hl : CM K r f) {σ : L2.St} {H : Hp} {Q : VK} (h : tM K (mCall f ms) σ H Q) : tCB r (tAM K ms) σ H Q := by
  obtain ⟨G, env, F, rel, t, e, q⟩ := h
  simp only [mCall, Option.bind_eq_some_iff] at e
  obtain ⟨ts, e1, e2⟩ := e
  refine ⟨G, env, F, rel, ts, e1, fun vs H1 G1 x1 r1 => ?_⟩
  exact hl G1 H1 ts t vs e2 x1.gh r1 Q fun v H' G' F' x2 r2 => q v H' G' F' (x1.trans x2) r2
theorem pm_callB {x : Str} {id : String} {r : List V → Hp → VK → Prop} {f : List T → Option T} {p : Pos} (hc : CallR X (.builtin id) r) (hl : CM X.K r f) (hg : Gl X x) (hm : X.mg x = none) (hv : bootBuiltins x = some (.builtin id)) (ha : PAM X (e :: es) ms)
    (hn : x ≠ "__name__" := by decide) (hdb : (x == ("__debug__" : Str)) = false := by decide)
    (he : starEach (e :: es) X.env = (false, eval e X.env) :: starEach es X.env := by rfl) (hpl : (backTo pos (starEach es X.env)).any (·.1) = false := by rfl) : PM X (.Call (.Name x p) (e :: es) [] pos) (mCall f ms) :=
  PE_imp (pe_callB hc hg hm hv ha hn hdb he hpl) fun _ _ _ h => tCBM hl h
theorem pm_callTy {x : Str} {id : String} {r : List V → Hp → VK → Prop} {f : List T → Option T} {p : Pos} (hc : CallR X (.type id) r) (hl : CM X.K r f) (hg : Gl X x) (hm : X.mg x = none) (hv : bootBuiltins x = some (.type id)) (ha : PAM X (e :: es) ms)
    (hn : x ≠ "__name__" := by decide) (hdb : (x == ("__debug__" : Str)) = false := by decide)
    (he : starEach (e :: es) X.env = (false, eval e X.env) :: starEach es X.env := by rfl) (hpl : (backTo pos (starEach es X.env)).any (·.1) = false := by rfl) : PM X (.Call (.Name x p) (e :: es) [] pos) (mCall f ms) :=
  PE_imp (pe_callTy hc hg hm hv ha hn hdb he hpl) fun _ _ _ h => tCBM hl h
/-! displays -/
def T.pure? : T → Option D
  | .p d => some d
  | _ => none
def pures : List T → Option (List D)
  | [] => some []
  | t :: r => t.pure?.bind fun d => (pures r).map fun ds => d :: ds
theorem pures_map : ∀ ds : List D, pures (ds.map T.p) = some ds
  | [] => rfl
  | d :: r => by simp [pures, T.pure?, pures_map r]
theorem Args.pures {K : PySem.W.Frag} {G H : Hp} : ∀ {ts : List T} {vs : List V} {ds : List D}, Args K G H ts vs → pures ts = some ds → Rps K G vs ds
  | _, _, _, .nil, e => by simp [M.pures] at e; subst e; exact .nil
  | _, _, _, .cons (t := t) h r, e => by
    simp only [M.pures, Option.bind_eq_some_iff, Option.map_eq_some_iff] at e
    obtain ⟨d, e1, ds, e2, rfl⟩ := e
    cases t with
    | p d' => simp [T.pure?] at e1; subst e1; exact .cons h.pure (Args.pures r e2)
    | _ => simp [T.pure?] at e1
def mTup (ms : En → Option (List T)) : EM := fun env => (ms env).bind fun ts => (pures ts).bind fun ds => if ds.length ≤ LIM then some (.p (.tuple ds)) else none
def mLst (ms : En → Option (List T)) : EM := fun env => (ms env).bind fun ts => (pures ts).bind fun ds => if ds.length ≤ LIM then some (.p (.list ds)) else none
theorem pm_tup {x1} (h : PAM X es ms) : PM X (.Tuple es x1 pos) (mTup ms) := by
  refine PE_imp (pe_tup h) fun σ H Q q => ?_
  obtain ⟨G, env, F, rel, t, e1, q⟩ := q
  simp only [mTup, Option.bind_eq_some_iff] at e1
  obtain ⟨ts, e2, ds, e3, e4⟩ := e1
  split at e4
  · rename_i hz
    cases e4
    refine ⟨G, env, F, rel, ts, e2, fun vs H1 G1 x1 r1 => ?_⟩
    have rr := r1.pures e3
    refine ⟨by rw [rr.length]; exact Nat.le_trans hz LIM_line, fun p np => ?_⟩
    have x2 := Ext.new (o := .tup vs) x1.gh np
    exact q _ _ _ [] (x1.trans x2) (.p (.tup (.inl (.inl upd_same)) (rr.mono x2.gg)))
  · cases e4
theorem pm_lst (h : PAM X es ms) : PM X (.List es pos) (mLst ms) := by
  refine PE_imp (pe_lst h) fun σ H Q q => ?_
  obtain ⟨G, env, F, rel, t, e1, q⟩ := q
  simp only [mLst, Option.bind_eq_some_iff] at e1
  obtain ⟨ts, e2, ds, e3, e4⟩ := e1
  split at e4
  · rename_i hz
    cases e4
    refine ⟨G, env, F, rel, ts, e2, fun vs H1 G1 x1 r1 => ?_⟩
    have rr := r1.pures e3
    refine ⟨by rw [rr.length]; exact Nat.le_trans hz LIM_line, fun p np => ?_⟩
    have x2 := Ext.new (o := .lst vs) x1.gh np
    exact q _ _ _ [] (x1.trans x2) (.p (.lst upd_same (rr.mono x2.gg)))
  · cases e4
end
end M
/-! M3: operators and built-ins on trees. -/
namespace M
open PySem PySem.Spec PyProof.Rows L2

/-! ### shapes -/
def T.int? : T → Option Int
  | .p (.int i) => some i
  | _ => none
def T.kids : T → Option (List T)
  | .p (.list ds) => some (ds.map T.p)
  | .p (.tuple ds) => some (ds.map T.p)
  | .sc ns => some ((ns.map PyData.int).map T.p)
  | .ml ts => some ts
  | .tp ts => some ts
  | _ => none
/-- a tracked list of pure items -/
def T.lst? : T → Option (List D)
  | .p (.list ds) => some ds
  | .ml ts => pures ts
  | _ => none
def T.tup? : T → Option (List D)
  | .p (.tuple ds) => some ds
  | .tp ts => pures ts
  | _ => none
def T.ptup? : T → Option (List D)
  | .p (.tuple ds) => some ds
  | _ => none
/-- a list that may be read -/
def T.seq? : T → Option (List D)
  | .p (.list ds) => some ds
  | .ml ts => pures ts
  | .sc ns => some (ns.map PyData.int)
  | _ => none

section
variable {K : PySem.W.Frag} {G H : Hp} {t : T} {v : V} {F : List Addr}
theorem TR.int (r : TR K G H t v F) {i : Int} (e : t.int? = some i) : v = .int i := by
  cases r with
  | p h => cases h <;> simp [T.int?] at e; subst e; rfl
  | _ => simp [T.int?] at e
theorem TR.kids (r : TR K G H t v F) (s : Same G H) {ts : List T} (e : t.kids = some ts) : ∃ a vs, v = .ref a ∧ (SqL K H a vs ∨ SqT K H a vs) ∧ Args K G H ts vs := by
  cases r with
  | p h =>
    cases h with
    | lst h r => simp [T.kids] at e; subst e; exact ⟨_, _, rfl, .inl (.inl (.inl (s _ _ h))), Rps.args r⟩
    | tup h r => simp [T.kids] at e; subst e; exact ⟨_, _, rfl, .inr (Same.seqT s h), Rps.args r⟩
    | _ => simp [T.kids] at e
  | sc h => simp only [T.kids, Option.some.injEq] at e; subst e; exact ⟨_, _, rfl, .inl (s.seq h), Rps.args (Rps.of_ints _)⟩
  | ml h r => simp [T.kids] at e; subst e; exact ⟨_, _, rfl, .inl (.inl (.inl h)), r.args⟩
  | tp h r => simp [T.kids] at e; subst e; exact ⟨_, _, rfl, .inr (.inl (.inl h)), r.args⟩
  | _ => simp [T.kids] at e
theorem TR.lst (r : TR K G H t v F) (s : Same G H) {ds : List D} (e : t.lst? = some ds) : ∃ a vs, v = .ref a ∧ H a = some (.lst vs) ∧ Rps K G vs ds := by
  cases r with
  | p h =>
    cases h with
    | lst h r => simp [T.lst?] at e; subst e; exact ⟨_, _, rfl, s _ _ h, r⟩
    | _ => simp [T.lst?] at e
  | ml h r => exact ⟨_, _, rfl, h, r.args.pures e⟩
  | _ => simp [T.lst?] at e
theorem TR.tup (r : TR K G H t v F) (s : Same G H) {ds : List D} (e : t.tup? = some ds) : ∃ a vs, v = .ref a ∧ SqT K H a vs ∧ Rps K G vs ds := by
  cases r with
  | p h =>
    cases h with
    | tup h r => simp [T.tup?] at e; subst e; exact ⟨_, _, rfl, Same.seqT s h, r⟩
    | _ => simp [T.tup?] at e
  | tp h r => exact ⟨_, _, rfl, .inl (.inl h), r.args.pures e⟩
  | _ => simp [T.tup?] at e
theorem TR.ptup (r : TR K G H t v F) {ds : List D} (e : t.ptup? = some ds) : ∃ a vs, v = .ref a ∧ SqT K G a vs ∧ Rps K G vs ds := by
  cases r with
  | p h =>
    cases h with
    | tup h r => simp [T.ptup?] at e; subst e; exact ⟨_, _, rfl, h, r⟩
    | _ => simp [T.ptup?] at e
  | _ => simp [T.ptup?] at e
theorem TR.seq (r : TR K G H t v F) (s : Same G H) {ds : List D} (e : t.seq? = some ds) : ∃ a vs, v = .ref a ∧ SqL K H a vs ∧ Rps K G vs ds := by
  cases r with
  | p h =>
    cases h with
    | lst h r => simp [T.seq?] at e; subst e; exact ⟨_, _, rfl, .inl (.inl (s _ _ h)), r⟩
    | _ => simp [T.seq?] at e
  | ml h r => exact ⟨_, _, rfl, .inl (.inl h), r.args.pures e⟩
  | sc h => simp only [T.seq?, Option.some.injEq] at e; subst e; exact ⟨_, _, rfl, s.seq h, Rps.of_ints _⟩
  | _ => simp [T.seq?] at e
theorem Args.at {ts : List T} {vs : List V} (r : Args K G H ts vs) {i : Int} {t : T} (e : atI ts i = some t) : ∃ v F, atI vs i = some v ∧ TR K G H t v F := by
  unfold atI at e ⊢
  rw [Option.bind_eq_some_iff] at e
  obtain ⟨j, e1, e2⟩ := e
  obtain ⟨v, F, h1, h2⟩ := r.get e2
  exact ⟨v, F, by rw [← r.length, e1]; exact h1, h2⟩
end

/-! ### numbers -/
def iOp (f : Int → Int → Option Int) : T → T → Option T := fun a b => a.int?.bind fun i => b.int?.bind fun j => (f i j).map fun k => .p (.int k)
def cOp (f : Int → Int → Bool) : T → T → Option T := fun a b => a.int?.bind fun i => b.int?.map fun j => .p (.bool (f i j))
section
variable {K : PySem.W.Frag}
theorem r2m_i {C : Int → Int → Prop} {g : Int → Int → Int} {f : Int → Int → Option Int} (h : ∀ i j k, f i j = some k → C i j ∧ k = g i j) : R2M K (rI C fun i j => .int (g i j)) (iOp f) := by
  intro G H t1 t2 t x y F1 F2 e s r1 r2 Q q
  simp only [iOp, Option.bind_eq_some_iff, Option.map_eq_some_iff] at e
  obtain ⟨i, e1, j, e2, k, e3, rfl⟩ := e
  obtain ⟨c, rfl⟩ := h i j k e3
  exact ⟨i, j, r1.int e1, r2.int e2, c, q _ H G [] (Ext.refl s) (.p (.int _))⟩
theorem r2m_i0 {g : Int → Int → Int} : R2M K (rI0 fun i j => .int (g i j)) (iOp fun i j => some (g i j)) := by
  intro G H t1 t2 t x y F1 F2 e s r1 r2 Q q
  simp only [iOp, Option.bind_eq_some_iff, Option.map_eq_some_iff] at e
  obtain ⟨i, e1, j, e2, k, e3, rfl⟩ := e
  cases e3
  exact ⟨i, j, r1.int e1, r2.int e2, q _ H G [] (Ext.refl s) (.p (.int _))⟩
theorem r2m_c {g : Int → Int → Bool} : R2M K (rI0 fun i j => .bl (g i j)) (cOp g) := by
  intro G H t1 t2 t x y F1 F2 e s r1 r2 Q q
  simp only [cOp, Option.bind_eq_some_iff, Option.map_eq_some_iff] at e
  obtain ⟨i, e1, j, e2, rfl⟩ := e
  exact ⟨i, j, r1.int e1, r2.int e2, q _ H G [] (Ext.refl s) (.p (.bl _))⟩
end
def mulOk (i j : Int) : Bool := decide (i.natAbs < 2 ^ 64) || decide (j.natAbs < 2 ^ 64) || decide (i.natAbs.log2 + j.natAbs.log2 < 1000000)
def CMulB (i j : Int) : Prop := mulOk i j = true
theorem CMulB.ok {i j : Int} (h : CMulB i j) : IntMulOk i j := by
  unfold CMulB mulOk at h
  simp only [Bool.or_eq_true, decide_eq_true_eq] at h
  rcases h with (h | h) | h
  · exact (show CMul i j from .inl ⟨by omega, by omega⟩).ok
  · exact (show CMul i j from .inr ⟨by omega, by omega⟩).ok
  · exact (show CMulW i j from h).ok
def divOk (j : Int) : Bool := decide (j ≠ 0) && decide (j.natAbs.log2 < 9000)
def CDivB (_ j : Int) : Prop := divOk j = true
section
variable {X : Cx}
theorem op_mulB : OpR X (binaryOp .Mult) (rI CMulB fun i j => .int (i * j)) := opI fun _ _ _ _ _ _ _ hc q => mul_int q hc.ok
theorem op_fdivB : OpR X (binaryOp .FloorDiv) (rI CDivB fun i j => .int (i.fdiv j)) := opI fun i j _ _ _ _ _ hc q => by
  have h : divOk j = true := hc
  unfold divOk at h
  simp only [Bool.and_eq_true, decide_eq_true_eq] at h
  exact floordiv_int h.1 q (.inl (PyProof.noPylong_of_log2 h.2))
end
/-! ### +, * of anything -/
def subT : T → T → Option T := iOp fun i j => some (i - j)
def modT : T → T → Option T := iOp fun i j => if j = 0 then none else some (i.fmod j)
def fdivT : T → T → Option T := iOp fun i j => if divOk j then some (i.fdiv j) else none
def powT : T → T → Option T := iOp fun i j => if 0 ≤ j ∧ j ≤ 1000000 ∧ i.natAbs < 2 ^ 64 then some (i ^ j.toNat) else none
def shlT : T → T → Option T := iOp fun i j => if 0 ≤ j ∧ j ≤ 1000000 ∧ i.natAbs < 2 ^ 64 then some (i * 2 ^ j.toNat) else none
def shrT : T → T → Option T := iOp fun i j => if 0 ≤ j then some (i / 2 ^ j.toNat) else none
def andT : T → T → Option T := iOp fun i j => some (Builtin.bitAnd i j)
def xorT : T → T → Option T := iOp fun i j => some (Builtin.bitXor i j)
def ltT : T → T → Option T := cOp fun i j => decide (i < j)
def leT : T → T → Option T := cOp fun i j => decide (i ≤ j)
def gtT : T → T → Option T := cOp fun i j => decide (j < i)
def geT : T → T → Option T := cOp fun i j => decide (j ≤ i)
def addT : T → T → Option T := fun a b =>
  match a.int?, b.int? with
  | some i, some j => some (.p (.int (i + j)))
  | _, _ => match a.lst?, b.lst? with
    | some xs, some ys => if xs.length + ys.length ≤ LIM then some (.p (.list (xs ++ ys))) else none
    | _, _ => match a.ptup?, b.ptup? with
      | some xs, some ys => if xs.length + ys.length ≤ LIM then some (.p (.tuple (xs ++ ys))) else none
      | _, _ => match a, b with
        | .p (.str x), .p (.str y) => if x.length + y.length ≤ LIM then some (.p (.str (x ++ y))) else none
        | _, _ => none
def mulT : T → T → Option T := fun a b =>
  match a.int?, b.int? with
  | some i, some j => if mulOk i j then some (.p (.int (i * j))) else none
  | _, some j => match a.lst? with
    | some xs => if -(2 ^ 62) ≤ j ∧ j < 2 ^ 62 ∧ xs.length * j.toNat ≤ LIM then some (.p (.list (List.replicate j.toNat xs).flatten)) else none
    | none => match a.tup? with
      | some xs => if xs ≠ [] ∧ 2 ≤ j ∧ j ≤ 1000 ∧ xs.length ≤ 1000 then some (.p (.tuple (List.replicate j.toNat xs).flatten)) else none
      | none => none
  | _, none => none
def rAddA (K : PySem.W.Frag) : R2 := fun x y H Q => (rI0 (fun i j => .int (i + j)) x y H Q ∨ rCat x y H Q) ∨ (rCatA K x y H Q ∨ ∃ i j, x = .str i ∧ y = .str j ∧ i.length + j.length ≤ sizeLine ∧ Q (.str (i ++ j)) H)
def rMulA (K : PySem.W.Frag) : R2 := fun x y H Q => rI CMulB (fun i j => .int (i * j)) x y H Q ∨ (rRep x y H Q ∨ rRepT K x y H Q)
theorem op_addA {X : Cx} : OpR X (binaryOp .Add) (rAddA X.K) := (op_add.or op_cat).or (op_catA.or op_add_str)
theorem op_mulA {X : Cx} : OpR X (binaryOp .Mult) (rMulA X.K) := op_mulB.or (op_rep.or op_repT)
section
variable {K : PySem.W.Frag}
theorem r2m_sub : R2M K (rI0 fun i j => .int (i - j)) subT := r2m_i0
theorem r2m_mod : R2M K (rI (fun _ j => j ≠ 0) fun i j => .int (i.fmod j)) modT := r2m_i fun i j k e => by
  split at e
  · cases e
  · rename_i h; cases e; exact ⟨h, rfl⟩
theorem r2m_fdiv : R2M K (rI CDivB fun i j => .int (i.fdiv j)) fdivT := r2m_i fun i j k e => by
  split at e
  · rename_i h; cases e; exact ⟨h, rfl⟩
  · cases e
theorem r2m_pow : R2M K (rI CPow fun i j => .int (i ^ j.toNat)) powT := r2m_i fun i j k e => by
  split at e
  · rename_i h; cases e; exact ⟨h, rfl⟩
  · cases e
theorem r2m_shl : R2M K (rI CPow fun i j => .int (i * 2 ^ j.toNat)) shlT := r2m_i fun i j k e => by
  split at e
  · rename_i h; cases e; exact ⟨h, rfl⟩
  · cases e
theorem r2m_shr : R2M K (rI (fun _ j => 0 ≤ j) fun i j => .int (i / 2 ^ j.toNat)) shrT := r2m_i fun i j k e => by
  split at e
  · rename_i h; cases e; exact ⟨h, rfl⟩
  · cases e
theorem r2m_and : R2M K (rI0 fun i j => .int (Builtin.bitAnd i j)) andT := r2m_i0
theorem r2m_xor : R2M K (rI0 fun i j => .int (Builtin.bitXor i j)) xorT := r2m_i0
theorem r2m_lt : R2M K (rI0 fun i j => .bl (decide (i < j))) ltT := r2m_c
theorem r2m_le : R2M K (rI0 fun i j => .bl (decide (i ≤ j))) leT := r2m_c
theorem r2m_gt : R2M K (rI0 fun i j => .bl (decide (j < i))) gtT := r2m_c
theorem r2m_ge : R2M K (rI0 fun i j => .bl (decide (j ≤ i))) geT := r2m_c
theorem r2m_add : R2M K (rAddA K) addT := by
  intro G H t1 t2 t x y F1 F2 e s r1 r2 Q q
  unfold addT at e
  split at e
  · rename_i i j e1 e2
    cases e
    exact .inl (.inl ⟨i, j, r1.int e1, r2.int e2, q _ H G [] (Ext.refl s) (.p (.int _))⟩)
  · split at e
    · rename_i xs ys e1 e2
      split at e
      · rename_i hz
        cases e
        obtain ⟨a, vs, rfl, h1, p1⟩ := r1.lst s e1
        obtain ⟨b, ws, rfl, h2, p2⟩ := r2.lst s e2
        refine .inl (.inr ⟨a, b, vs, ws, rfl, rfl, h1, h2, by rw [p1.length, p2.length]; exact Nat.le_trans hz LIM_line, fun p np => ?_⟩)
        have x2 := Ext.new (o := .lst (vs ++ ws)) s np
        exact q _ _ _ [] x2 (.p (.lst upd_same ((p1.append p2).mono x2.gg)))
      · cases e
    · split at e
      · rename_i xs ys e1 e2
        split at e
        · rename_i hz
          cases e
          obtain ⟨a, vs, rfl, g1, p1⟩ := r1.ptup e1
          obtain ⟨b, ws, rfl, g2, p2⟩ := r2.ptup e2
          refine .inr (.inl ⟨a, b, vs, ws, rfl, rfl, Same.seqT s g1, Same.seqT s g2, by rw [p1.length, p2.length]; exact Nat.le_trans hz LIM_line, fun z => ?_, fun _ z => ?_, fun _ _ p np => ?_⟩)
          · subst z
            cases p1
            exact q _ H G [] (Ext.refl s) (.p (.tup g2 p2))
          · subst z
            cases p2
            rw [List.append_nil] at q
            exact q _ H G [] (Ext.refl s) (.p (.tup g1 p1))
          · have x2 := Ext.new (o := .tup (vs ++ ws)) s np
            exact q _ _ _ [] x2 (.p (.tup (.inl (.inl upd_same)) ((p1.append p2).mono x2.gg)))
        · cases e
      · split at e
        · split at e
          · rename_i hz
            cases e
            cases r1.pure
            cases r2.pure
            exact .inr (.inr ⟨_, _, rfl, rfl, Nat.le_trans hz LIM_line, q _ H G [] (Ext.refl s) (.p (.str _))⟩)
          · cases e
        · cases e
theorem r2m_mul : R2M K (rMulA K) mulT := by
  intro G H t1 t2 t x y F1 F2 e s r1 r2 Q q
  unfold mulT at e
  split at e
  · rename_i i j e1 e2
    split at e
    · rename_i hz
      cases e
      exact .inl ⟨i, j, r1.int e1, r2.int e2, hz, q _ H G [] (Ext.refl s) (.p (.int _))⟩
    · cases e
  · rename_i o1 o2 j e1 e2
    split at e
    · rename_i xs e3
      split at e
      · rename_i hz
        cases e
        obtain ⟨a, vs, rfl, h1, p1⟩ := r1.lst s e3
        refine .inr (.inl ⟨a, j, vs, rfl, r2.int e1, h1, by omega, by omega, by rw [p1.length]; exact Nat.le_trans hz.2.2 LIM_line, fun p np => ?_⟩)
        have x2 := Ext.new (o := .lst (List.replicate j.toNat vs).flatten) s np
        exact q _ _ _ [] x2 (.p (.lst upd_same ((p1.rep _).mono x2.gg)))
      · cases e
    · split at e
      · rename_i xs e3
        split at e
        · rename_i hz
          cases e
          obtain ⟨a, vs, rfl, h1, p1⟩ := r1.tup s e3
          refine .inr (.inr ⟨a, j, vs, rfl, r2.int e1, h1, fun z => ?_, hz.2.1, hz.2.2.1, by rw [p1.length]; exact hz.2.2.2, fun p np => ?_⟩)
          · subst z
            cases p1
            exact hz.1 rfl
          · have x2 := Ext.new (o := .tup (List.replicate j.toNat vs).flatten) s np
            exact q _ _ _ [] x2 (.p (.tup (.inl (.inl upd_same)) ((p1.rep _).mono x2.gg)))
        · cases e
      · cases e
  · cases e
end

/-! ### ==, != -/
mutual
theorem Rp.dp {K : PySem.W.Frag} {H : Hp} : ∀ {v : V} {d : D}, Rp K H v d → d.canLay0 = true → Dp K H v d
  | _, _, .non, _ => .non
  | _, _, .bl b, _ => .bl b
  | _, _, .int i, _ => .int i
  | _, _, .str x, _ => .str x
  | _, _, .lst h r, e => .lst (.inl (.inl h)) (Rps.dp r (by simpa only [PyData.canLay0] using e))
  | _, _, .tup h r, e => .tup h (Rps.dp r (by simpa only [PyData.canLay0] using e))
  | _, _, .dct h r, e => by simp [PyData.canLay0] at e
theorem Rps.dp {K : PySem.W.Frag} {H : Hp} : ∀ {v : List V} {d : List D}, Rps K H v d → PyData.canLayAll0 d = true → DpAll K H v d
  | _, _, .nil, _ => .nil
  | _, _, .cons h r, e => by
    simp only [PyData.canLayAll0, Bool.and_eq_true] at e
    exact .cons (Rp.dp h e.1) (Rps.dp r e.2)
end
def eqT : T → T → Option T := fun a b => a.snap.bind fun d => b.snap.bind fun e => if SeqAt.shaped d = true ∧ SeqAt.shaped e = true then some (.p (.bool (PyData.eqv d e))) else none
def neT : T → T → Option T := fun a b => a.snap.bind fun d => b.snap.bind fun e => if SeqAt.shaped d = true ∧ SeqAt.shaped e = true then some (.p (.bool (!PyData.eqv d e))) else none
section
variable {K : PySem.W.Frag}
theorem r2m_eq : R2M K (rEqD K) eqT := by
  intro G H t1 t2 t x y F1 F2 e s r1 r2 Q q
  simp only [eqT, Option.bind_eq_some_iff] at e
  obtain ⟨d, e1, d2, e2, e3⟩ := e
  split at e3
  · rename_i hz
    cases e3
    exact ⟨d, d2, (r1.live s e1).dp (SeqAt.canLay_of_shaped hz.1), (r2.live s e2).dp (SeqAt.canLay_of_shaped hz.2), hz.1, hz.2, q _ H G [] (Ext.refl s) (.p (.bl _))⟩
  · cases e3
theorem r2m_ne : R2M K (rNeD K) neT := by
  intro G H t1 t2 t x y F1 F2 e s r1 r2 Q q
  simp only [neT, Option.bind_eq_some_iff] at e
  obtain ⟨d, e1, d2, e2, e3⟩ := e
  split at e3
  · rename_i hz
    cases e3
    exact ⟨d, d2, (r1.live s e1).dp (SeqAt.canLay_of_shaped hz.1), (r2.live s e2).dp (SeqAt.canLay_of_shaped hz.2), hz.1, hz.2, q _ H G [] (Ext.refl s) (.p (.bl _))⟩
  · cases e3
/-! ### x is None -/
def isnT : T → T → Option T := fun a b => match a, b with
  | .p d, .p .none => some (.p (.bool (match d with | .none => true | _ => false)))
  | _, _ => none
def notnT : T → T → Option T := fun a b => match a, b with
  | .p d, .p .none => some (.p (.bool (match d with | .none => false | _ => true)))
  | _, _ => none
theorem r2m_isn : R2M K (fun x y H Q => y = .non ∧ Q (.bl (decide (x = .non))) H) isnT := by
  intro G H t1 t2 t x y F1 F2 e s r1 r2 Q q
  unfold isnT at e
  split at e
  · cases e
    have h2 := r2.pure
    have h1 := r1.pure
    cases h2
    refine ⟨rfl, q _ H G [] (Ext.refl s) (.p ?_)⟩
    cases h1 <;> exact .bl _
  · cases e
theorem r2m_notn : R2M K (fun x y H Q => y = .non ∧ Q (.bl (!decide (x = .non))) H) notnT := by
  intro G H t1 t2 t x y F1 F2 e s r1 r2 Q q
  unfold notnT at e
  split at e
  · cases e
    have h2 := r2.pure
    have h1 := r1.pure
    cases h2
    refine ⟨rfl, q _ H G [] (Ext.refl s) (.p ?_)⟩
    cases h1 <;> exact .bl _
  · cases e
/-! ### a[i] of a list, a tuple, a text -/
def idxT : T → T → Option T := fun a b => b.int?.bind fun i => match a with
  | .p (.str z) => if z.length ≤ LIM then (atI z.cps.toList i).map fun c => .p (.str ⟨#[c]⟩) else none
  | a => a.kids.bind fun ts => atI ts i
theorem r2m_ix : R2M K (rIx K) idxT := by
  intro G H t1 t2 t x y F1 F2 e s r1 r2 Q q
  simp only [idxT, Option.bind_eq_some_iff] at e
  obtain ⟨i, e1, e2⟩ := e
  split at e2
  · split at e2
    · rename_i z hz
      rw [Option.map_eq_some_iff] at e2
      obtain ⟨c, e3, rfl⟩ := e2
      cases r1.pure
      exact .inr (.inr ⟨z, i, c, rfl, r2.int e1, Nat.le_trans hz LIM_line, e3, q _ H G [] (Ext.refl s) (.p (.str _))⟩)
    · cases e2
  · rw [Option.bind_eq_some_iff] at e2
    obtain ⟨ts, e3, e4⟩ := e2
    obtain ⟨a, vs, rfl, h1, p1⟩ := r1.kids s e3
    obtain ⟨v, F, h2, h3⟩ := p1.at e4
    rcases h1 with h1 | h1
    · exact .inl ⟨a, vs, i, v, rfl, r2.int e1, h1, h2, q v H G F (Ext.refl s) h3⟩
    · exact .inr (.inl ⟨a, vs, i, v, rfl, r2.int e1, h1, h2, q v H G F (Ext.refl s) h3⟩)
/-! ### x in xs -/
def flatD : D → Bool
  | .none | .bool _ | .int _ | .str _ => true
  | _ => false
theorem Rp.flat {G : Hp} {v : V} {d : D} (r : Rp K G v d) (f : flatD d = true) : flatV v = true := by
  cases r <;> first | rfl | simp [flatD] at f
theorem Rp.eqv {G G' : Hp} {v u : V} {d e : D} (r : Rp K G v d) (r' : Rp K G' u e) (f : flatD d = true) (f' : flatD e = true) : eqV v u = PyData.eqv d e := by
  cases r <;> first | (simp [flatD] at f; done) | (cases r' <;> first | (simp [flatD] at f'; done) | simp [eqV, PyData.eqv])
theorem Rps.any {G G' : Hp} {u : V} {e : D} (r' : Rp K G' u e) (f' : flatD e = true) : ∀ {vs : List V} {ds : List D}, Rps K G vs ds → ds.all flatD = true → vs.all flatV = true ∧ inV u vs = ds.any fun z => PyData.eqv z e
  | _, _, .nil, _ => ⟨rfl, rfl⟩
  | _, _, .cons h r, f => by
    rw [List.all_cons, Bool.and_eq_true] at f
    obtain ⟨h1, h2⟩ := Rps.any r' f' r f.2
    refine ⟨by rw [List.all_cons, h.flat f.1, h1]; rfl, ?_⟩
    unfold inV at h2 ⊢
    rw [List.any_cons, List.any_cons, h2, h.eqv r' f.1 f']
def T.any? : T → Option (List D) := fun t => match t.seq? with
  | some ds => some ds
  | none => t.tup?
theorem TR.any {G H : Hp} {t : T} {v : V} {F : List Addr} (r : TR K G H t v F) (s : Same G H) {ds : List D} (e : t.any? = some ds) : ∃ a vs, v = .ref a ∧ (SqL K H a vs ∨ SqT K H a vs) ∧ Rps K G vs ds := by
  unfold T.any? at e
  split at e
  · rename_i e1
    cases e
    obtain ⟨a, vs, h1, h2, h3⟩ := r.seq s e1
    exact ⟨a, vs, h1, .inl h2, h3⟩
  · obtain ⟨a, vs, h1, h2, h3⟩ := r.tup s e
    exact ⟨a, vs, h1, .inr h2, h3⟩
def inT : T → T → Option T := fun a b => a.pure?.bind fun d => b.any?.bind fun ds => if flatD d = true ∧ ds.all flatD = true then some (.p (.bool (ds.any fun z => PyData.eqv z d))) else none
def notInT : T → T → Option T := fun a b => a.pure?.bind fun d => b.any?.bind fun ds => if flatD d = true ∧ ds.all flatD = true then some (.p (.bool (!ds.any fun z => PyData.eqv z d))) else none
theorem TR.of_pure? {G H : Hp} {t : T} {v : V} {F : List Addr} {d : D} (r : TR K G H t v F) (e : t.pure? = some d) : Rp K G v d := by
  cases t with
  | p d' => simp [T.pure?] at e; subst e; exact r.pure
  | _ => simp [T.pure?] at e
theorem r2m_in : R2M K (rIn K false) inT := by
  intro G H t1 t2 t x y F1 F2 e s r1 r2 Q q
  simp only [inT, Option.bind_eq_some_iff] at e
  obtain ⟨d, e1, ds, e2, e3⟩ := e
  split at e3
  · rename_i hz
    cases e3
    obtain ⟨a, vs, rfl, h1, p1⟩ := r2.any s e2
    have rd := r1.of_pure? e1
    obtain ⟨h2, h3⟩ := Rps.any rd hz.1 p1 hz.2
    refine ⟨a, vs, rfl, h1, rd.flat hz.1, h2, q _ H G [] (Ext.refl s) (.p ?_)⟩
    rw [if_neg Bool.false_ne_true, h3]
    exact .bl _
  · cases e3
theorem r2m_notIn : R2M K (rIn K true) notInT := by
  intro G H t1 t2 t x y F1 F2 e s r1 r2 Q q
  simp only [notInT, Option.bind_eq_some_iff] at e
  obtain ⟨d, e1, ds, e2, e3⟩ := e
  split at e3
  · rename_i hz
    cases e3
    obtain ⟨a, vs, rfl, h1, p1⟩ := r2.any s e2
    have rd := r1.of_pure? e1
    obtain ⟨h2, h3⟩ := Rps.any rd hz.1 p1 hz.2
    refine ⟨a, vs, rfl, h1, rd.flat hz.1, h2, q _ H G [] (Ext.refl s) (.p ?_)⟩
    rw [if_pos rfl, h3]
    exact .bl _
  · cases e3
end
end M
/-! M4: calls of built-ins, slices, isinstance. -/
namespace M
open PySem PySem.Spec PyProof.Rows L2

def intsOf : List D → Option (List Int)
  | [] => some []
  | .int i :: r => (intsOf r).map fun ns => i :: ns
  | _ :: _ => none
theorem intsOf_eq : ∀ {ds : List D} {ns : List Int}, intsOf ds = some ns → ds = ns.map PyData.int
  | [], _, e => by cases e; rfl
  | .int i :: r, _, e => by
    simp only [intsOf, Option.map_eq_some_iff] at e
    obtain ⟨ns, e1, rfl⟩ := e
    rw [intsOf_eq e1]; rfl
  | .none :: _, _, e => by simp [intsOf] at e
  | .bool _ :: _, _, e => by simp [intsOf] at e
  | .str _ :: _, _, e => by simp [intsOf] at e
  | .list _ :: _, _, e => by simp [intsOf] at e
  | .tuple _ :: _, _, e => by simp [intsOf] at e
  | .dict _ :: _, _, e => by simp [intsOf] at e
theorem intsOf_map : ∀ ns : List Int, intsOf (ns.map PyData.int) = some ns
  | [] => rfl
  | n :: r => by simp [intsOf, intsOf_map r]
def boolsOf : List D → Option (List Bool)
  | [] => some []
  | .bool i :: r => (boolsOf r).map fun ns => i :: ns
  | _ :: _ => none
theorem boolsOf_eq : ∀ {ds : List D} {ns : List Bool}, boolsOf ds = some ns → ds = ns.map PyData.bool
  | [], _, e => by cases e; rfl
  | .bool i :: r, _, e => by
    simp only [boolsOf, Option.map_eq_some_iff] at e
    obtain ⟨ns, e1, rfl⟩ := e
    rw [boolsOf_eq e1]; rfl
  | .none :: _, _, e => by simp [boolsOf] at e
  | .int _ :: _, _, e => by simp [boolsOf] at e
  | .str _ :: _, _, e => by simp [boolsOf] at e
  | .list _ :: _, _, e => by simp [boolsOf] at e
  | .tuple _ :: _, _, e => by simp [boolsOf] at e
  | .dict _ :: _, _, e => by simp [boolsOf] at e
theorem boolsOf_map : ∀ ns : List Bool, boolsOf (ns.map PyData.bool) = some ns
  | [] => rfl
  | n :: r => by simp [boolsOf, boolsOf_map r]

section
variable {K : PySem.W.Frag} {G H : Hp}
theorem Args.one {t : T} {vs : List V} (r : Args K G H [t] vs) : ∃ v F, vs = [v] ∧ TR K G H t v F := by
  cases r with
  | cons h r => cases r; exact ⟨_, _, rfl, h⟩
theorem Args.two {t u : T} {vs : List V} (r : Args K G H [t, u] vs) : ∃ v w F F', vs = [v, w] ∧ TR K G H t v F ∧ TR K G H u w F' := by
  cases r with
  | cons h r => cases r with
    | cons h' r => cases r; exact ⟨_, _, _, _, rfl, h, h'⟩
end

/-! ### len -/
def lenT : List T → Option T
  | [.p (.str z)] => if z.length ≤ LIM then some (.p (.int z.length)) else none
  | [.md kvs] => some (.p (.int kvs.length))
  | [.p (.dict kvs)] => some (.p (.int kvs.length))
  | [t] => t.kids.map fun ts => .p (.int ts.length)
  | _ => none
def rLenA (K : PySem.W.Frag) : List V → Hp → VK → Prop := fun xs H Q => (∃ x n, xs = [x] ∧ LenV K x H n ∧ Q (.int n) H) ∨ (∃ (a : Addr) (kvs : List (Key × V)), xs = [.ref a] ∧ H a = some (.dK kvs) ∧ Q (.int kvs.length) H)
theorem Rpk.length {K : PySem.W.Frag} {G : Hp} : ∀ {a : List (Key × V)} {b : List (D × D)}, Rpk K G a b → a.length = b.length
  | _, _, .nil => rfl
  | _, _, .cons _ r => by simp [r.length]
theorem KR.length {K : PySem.W.Frag} {G : Hp} : ∀ {a : List (Key × V)} {b : List (Key × D)}, KR K G a b → a.length = b.length
  | _, _, .nil => rfl
  | _, _, .cons _ r => by simp [r.length]
theorem call_lenA {X : Cx} : CallR X (.builtin "len") (rLenA X.K) := call_len.or (by
  intro pins s σ H xs us Q I r h
  obtain ⟨a, kvs, rfl, hd, q⟩ := h
  exact call_lenD pins s σ H _ us Q I r ⟨a, kvs, rfl, hd, q⟩)
section
variable {K : PySem.W.Frag}
theorem cm_len : CM K (rLenA K) lenT := by
  intro G H ts t xs e s r Q q
  unfold lenT at e
  split at e
  · split at e
    · rename_i z hz
      cases e
      obtain ⟨v, F, rfl, h⟩ := r.one
      cases h.pure
      exact .inl ⟨_, _, rfl, ⟨Nat.le_trans hz LIM_line, rfl⟩, q _ H G [] (Ext.refl s) (.p (.int _))⟩
    · cases e
  · cases e
    obtain ⟨v, F, rfl, h⟩ := r.one
    cases h with
    | md h k => exact .inr ⟨_, _, rfl, h, q _ H G [] (Ext.refl s) (.p (by rw [k.length]; exact .int _))⟩
  · cases e
    obtain ⟨v, F, rfl, h⟩ := r.one
    cases h.pure with
    | dct h9 k9 => exact .inr ⟨_, _, rfl, s _ _ h9, q _ H G [] (Ext.refl s) (.p (by rw [k9.length]; exact .int _))⟩
  · rw [Option.map_eq_some_iff] at e
    obtain ⟨ks, e1, rfl⟩ := e
    obtain ⟨v, F, rfl, h⟩ := r.one
    obtain ⟨a, vs, rfl, h1, p1⟩ := h.kids s e1
    refine .inl ⟨_, vs.length, rfl, ?_, q _ H G [] (Ext.refl s) (.p (by rw [p1.length]; exact .int _))⟩
    rcases h1 with h1 | h1
    · exact .inl ⟨vs, h1, rfl⟩
    · exact .inr ⟨vs, h1, rfl⟩
  · cases e
/-! ### sum, all, any, max, min, abs -/
def sumT : List T → Option T
  | [t] => t.seq?.bind fun ds => (intsOf ds).map fun ns => .p (.int ns.sum)
  | _ => none
theorem cm_sum : CM K (rSum K) sumT := by
  intro G H ts t xs e s r Q q
  unfold sumT at e
  split at e
  · simp only [Option.bind_eq_some_iff, Option.map_eq_some_iff] at e
    obtain ⟨ds, e1, ns, e2, rfl⟩ := e
    obtain ⟨v, F, rfl, h⟩ := r.one
    obtain ⟨a, vs, rfl, h1, p1⟩ := h.seq s e1
    rw [intsOf_eq e2] at p1
    rw [p1.ints] at h1
    exact ⟨a, ns, rfl, h1, q _ H G [] (Ext.refl s) (.p (.int _))⟩
  · cases e
def allT : List T → Option T
  | [t] => t.seq?.bind fun ds => (boolsOf ds).map fun ns => .p (.bool (ns.all id))
  | _ => none
def anyT : List T → Option T
  | [t] => t.seq?.bind fun ds => (boolsOf ds).map fun ns => .p (.bool (ns.any id))
  | _ => none
theorem cm_all : CM K (rAll K) allT := by
  intro G H ts t xs e s r Q q
  unfold allT at e
  split at e
  · simp only [Option.bind_eq_some_iff, Option.map_eq_some_iff] at e
    obtain ⟨ds, e1, ns, e2, rfl⟩ := e
    obtain ⟨v, F, rfl, h⟩ := r.one
    obtain ⟨a, vs, rfl, h1, p1⟩ := h.seq s e1
    rw [boolsOf_eq e2] at p1
    rw [p1.bls] at h1
    exact ⟨a, ns, rfl, h1, q _ H G [] (Ext.refl s) (.p (.bl _))⟩
  · cases e
theorem cm_any : CM K (rAny K) anyT := by
  intro G H ts t xs e s r Q q
  unfold anyT at e
  split at e
  · simp only [Option.bind_eq_some_iff, Option.map_eq_some_iff] at e
    obtain ⟨ds, e1, ns, e2, rfl⟩ := e
    obtain ⟨v, F, rfl, h⟩ := r.one
    obtain ⟨a, vs, rfl, h1, p1⟩ := h.seq s e1
    rw [boolsOf_eq e2] at p1
    rw [p1.bls] at h1
    exact ⟨a, ns, rfl, h1, q _ H G [] (Ext.refl s) (.p (.bl _))⟩
  · cases e
def maxI : List Int → Option Int
  | [] => none
  | n :: r => some (r.foldl max n)
def minI : List Int → Option Int
  | [] => none
  | n :: r => some (r.foldl min n)
theorem foldl_max_mem : ∀ (r : List Int) (n : Int), r.foldl max n ∈ n :: r ∧ ∀ y ∈ n :: r, y ≤ r.foldl max n
  | [], n => ⟨by simp, fun y hy => by simp at hy; subst hy; exact Int.le_refl _⟩
  | k :: r, n => by
    obtain ⟨h1, h2⟩ := foldl_max_mem r (max n k)
    simp only [List.foldl_cons]
    refine ⟨?_, fun y hy => ?_⟩
    · rcases List.mem_cons.mp h1 with z | z
      · rw [z]
        rcases Int.le_total n k with h | h
        · rw [Int.max_eq_right h]; simp
        · rw [Int.max_eq_left h]; simp
      · exact List.mem_cons_of_mem _ (List.mem_cons_of_mem _ z)
    · have h3 := h2 (max n k) List.mem_cons_self
      rcases List.mem_cons.mp hy with z | z
      · subst z; exact Int.le_trans (Int.le_max_left _ _) h3
      · rcases List.mem_cons.mp z with z | z
        · subst z; exact Int.le_trans (Int.le_max_right _ _) h3
        · exact h2 y (List.mem_cons_of_mem _ z)
theorem foldl_min_mem : ∀ (r : List Int) (n : Int), r.foldl min n ∈ n :: r ∧ ∀ y ∈ n :: r, r.foldl min n ≤ y
  | [], n => ⟨by simp, fun y hy => by simp at hy; subst hy; exact Int.le_refl _⟩
  | k :: r, n => by
    obtain ⟨h1, h2⟩ := foldl_min_mem r (min n k)
    simp only [List.foldl_cons]
    refine ⟨?_, fun y hy => ?_⟩
    · rcases List.mem_cons.mp h1 with z | z
      · rw [z]
        rcases Int.le_total n k with h | h
        · rw [Int.min_eq_left h]; simp
        · rw [Int.min_eq_right h]; simp
      · exact List.mem_cons_of_mem _ (List.mem_cons_of_mem _ z)
    · have h3 := h2 (min n k) List.mem_cons_self
      rcases List.mem_cons.mp hy with z | z
      · subst z; exact Int.le_trans h3 (Int.min_le_left _ _)
      · rcases List.mem_cons.mp z with z | z
        · subst z; exact Int.le_trans h3 (Int.min_le_right _ _)
        · exact h2 y (List.mem_cons_of_mem _ z)
theorem maxI_spec {ns : List Int} {m : Int} (e : maxI ns = some m) : m ∈ ns ∧ ∀ y ∈ ns, y ≤ m := by
  cases ns with
  | nil => cases e
  | cons n r => cases e; exact foldl_max_mem r n
theorem minI_spec {ns : List Int} {m : Int} (e : minI ns = some m) : m ∈ ns ∧ ∀ y ∈ ns, m ≤ y := by
  cases ns with
  | nil => cases e
  | cons n r => cases e; exact foldl_min_mem r n
def maxT : List T → Option T
  | [t] => t.any?.bind fun ds => (intsOf ds).bind fun ns => (maxI ns).map fun m => .p (.int m)
  | [a, b] => a.int?.bind fun i => b.int?.map fun j => .p (.int (max i j))
  | _ => none
def minT : List T → Option T
  | [t] => t.any?.bind fun ds => (intsOf ds).bind fun ns => (minI ns).map fun m => .p (.int m)
  | [a, b] => a.int?.bind fun i => b.int?.map fun j => .p (.int (min i j))
  | _ => none
def rMaxT (K : PySem.W.Frag) : List V → Hp → VK → Prop := fun vs H Q => ∃ (a : Addr) (ns : List Int) (m : Int), vs = [V.ref a] ∧ SqT K H a (ns.map V.int) ∧ maxI ns = some m ∧ Q (.int m) H
def rMinT (K : PySem.W.Frag) : List V → Hp → VK → Prop := fun vs H Q => ∃ (a : Addr) (ns : List Int) (m : Int), vs = [V.ref a] ∧ SqT K H a (ns.map V.int) ∧ minI ns = some m ∧ Q (.int m) H
theorem reads_ints {h : Heap} : ∀ {ns : List Int} {us : List Value}, Vals (ns.map V.int) us → ReadsAll h us (ns.map PyData.int) []
  | [], _, .nil => .nil
  | n :: r, _, .cons h1 h2 => by
    obtain ⟨t, rfl⟩ := h1
    exact .cons (.int n t) (reads_ints h2)
theorem alike_ints (ns : List Int) : PySem.W.AlikeAll (ns.map PyData.int) := by
  refine ⟨fun x hx y hy => ?_, fun x hx => ?_⟩
  · obtain ⟨i, _, rfl⟩ := List.mem_map.mp hx
    obtain ⟨j, _, rfl⟩ := List.mem_map.mp hy
    rfl
  · obtain ⟨i, _, rfl⟩ := List.mem_map.mp hx
    intro z; cases z
theorem depth_ints : ∀ ns : List Int, PyData.depthAll (ns.map PyData.int) = 0
  | [] => by simp [PyData.depthAll]
  | n :: r => by simp [PyData.depthAll, PyData.depth, depth_ints r]
section
variable {X : Cx}
theorem cr_maxT (hc : X.calm = true) (hu : X.A.units + 64 < cLine) : CallR X (.builtin "max") (rMaxT X.K) := by
  intro pins s σ H vs us Q I r h
  obtain ⟨a, ns, m, rfl, hs, e, q⟩ := h
  cases ns with
  | nil => cases e
  | cons n ns =>
    obtain ⟨its, rv, hl, _⟩ := I.tuple hs
    obtain ⟨u, rfl, hu1⟩ := vals1 r
    cases hu1
    have hd := depth_ints (n :: ns)
    refine PySem.W.max_tuple_data (x := .int n) (xs := ns.map PyData.int) (as := []) (I.ok.hd hc) hl (by simpa using reads_ints (h := s.heap) rv) (alike_ints (n :: ns)) (by
      have : PyData.depthAll (PyData.int n :: ns.map PyData.int) = 0 := hd
      rw [this]; omega) fun i v h' tk bs hi hr hk => ?_
    rw [PySem.W.maxD_ints] at hr
    cases e
    cases hr
    exact ⟨.int _, H, I.kept hk, ⟨_, rfl⟩, q⟩
theorem cr_minT (hc : X.calm = true) (hu : X.A.units + 64 < cLine) : CallR X (.builtin "min") (rMinT X.K) := by
  intro pins s σ H vs us Q I r h
  obtain ⟨a, ns, m, rfl, hs, e, q⟩ := h
  cases ns with
  | nil => cases e
  | cons n ns =>
    obtain ⟨its, rv, hl, _⟩ := I.tuple hs
    obtain ⟨u, rfl, hu1⟩ := vals1 r
    cases hu1
    have hd := depth_ints (n :: ns)
    refine PySem.W.min_tuple_data (x := .int n) (xs := ns.map PyData.int) (as := []) (I.ok.hd hc) hl (by simpa using reads_ints (h := s.heap) rv) (alike_ints (n :: ns)) (by
      have : PyData.depthAll (PyData.int n :: ns.map PyData.int) = 0 := hd
      rw [this]; omega) fun i v h' tk bs hi hr hk => ?_
    rw [PySem.W.minD_ints] at hr
    cases e
    cases hr
    exact ⟨.int _, H, I.kept hk, ⟨_, rfl⟩, q⟩
end
def rMaxA (K : PySem.W.Frag) : List V → Hp → VK → Prop := fun xs H Q => (rMax K xs H Q ∨ rMaxT K xs H Q) ∨ ∃ i j, xs = [.int i, .int j] ∧ Q (.int (if j > i then j else i)) H
def rMinA (K : PySem.W.Frag) : List V → Hp → VK → Prop := fun xs H Q => (rMin K xs H Q ∨ rMinT K xs H Q) ∨ ∃ i j, xs = [.int i, .int j] ∧ Q (.int (if j < i then j else i)) H
theorem cr_maxA {X : Cx} (hc : X.calm = true) (hu : X.A.units + 64 < cLine) : CallR X (.builtin "max") (rMaxA X.K) := ((cr_max hc).or (cr_maxT hc hu)).or (call_max2 hc)
theorem cr_minA {X : Cx} (hc : X.calm = true) (hu : X.A.units + 64 < cLine) : CallR X (.builtin "min") (rMinA X.K) := ((cr_min hc).or (cr_minT hc hu)).or (call_min2 hc)
theorem TR.anyI {G H : Hp} {t : T} {v : V} {F : List Addr} (r : TR K G H t v F) (s : Same G H) {ds : List D} {ns : List Int} (e : t.any? = some ds) (e2 : intsOf ds = some ns) : ∃ a, v = .ref a ∧ (SqL K H a (ns.map V.int) ∨ SqT K H a (ns.map V.int)) := by
  obtain ⟨a, vs, rfl, h1, p1⟩ := r.any s e
  rw [intsOf_eq e2] at p1
  rw [p1.ints] at h1
  exact ⟨a, rfl, h1⟩
theorem cm_max : CM K (rMaxA K) maxT := by
  intro G H ts t xs e s r Q q
  unfold maxT at e
  split at e
  · simp only [Option.bind_eq_some_iff, Option.map_eq_some_iff] at e
    obtain ⟨ds, e1, ns, e2, m, e3, rfl⟩ := e
    obtain ⟨v, F, rfl, h⟩ := r.one
    obtain ⟨a, rfl, h1 | h1⟩ := h.anyI s e1 e2
    · obtain ⟨m1, m2⟩ := maxI_spec e3
      refine .inl (.inl ⟨a, ns, rfl, h1, List.length_pos_of_mem m1, fun m' p1 p2 => ?_⟩)
      have : m' = m := Int.le_antisymm (m2 _ p1) (p2 _ m1)
      subst this
      exact q _ H G [] (Ext.refl s) (.p (.int _))
    · exact .inl (.inr ⟨a, ns, m, rfl, h1, e3, q _ H G [] (Ext.refl s) (.p (.int _))⟩)
  · simp only [Option.bind_eq_some_iff, Option.map_eq_some_iff] at e
    obtain ⟨i, e1, j, e2, rfl⟩ := e
    obtain ⟨v, w, F, F', rfl, h1, h2⟩ := r.two
    rw [h1.int e1, h2.int e2]
    refine .inr ⟨i, j, rfl, ?_⟩
    have : (if j > i then j else i) = max i j := by
      rw [Int.max_def]
      split <;> split <;> omega
    rw [this]
    exact q _ H G [] (Ext.refl s) (.p (.int _))
  · cases e
theorem cm_min : CM K (rMinA K) minT := by
  intro G H ts t xs e s r Q q
  unfold minT at e
  split at e
  · simp only [Option.bind_eq_some_iff, Option.map_eq_some_iff] at e
    obtain ⟨ds, e1, ns, e2, m, e3, rfl⟩ := e
    obtain ⟨v, F, rfl, h⟩ := r.one
    obtain ⟨a, rfl, h1 | h1⟩ := h.anyI s e1 e2
    · obtain ⟨m1, m2⟩ := minI_spec e3
      refine .inl (.inl ⟨a, ns, rfl, h1, List.length_pos_of_mem m1, fun m' p1 p2 => ?_⟩)
      have : m' = m := Int.le_antisymm (p2 _ m1) (m2 _ p1)
      subst this
      exact q _ H G [] (Ext.refl s) (.p (.int _))
    · exact .inl (.inr ⟨a, ns, m, rfl, h1, e3, q _ H G [] (Ext.refl s) (.p (.int _))⟩)
  · simp only [Option.bind_eq_some_iff, Option.map_eq_some_iff] at e
    obtain ⟨i, e1, j, e2, rfl⟩ := e
    obtain ⟨v, w, F, F', rfl, h1, h2⟩ := r.two
    rw [h1.int e1, h2.int e2]
    refine .inr ⟨i, j, rfl, ?_⟩
    have : (if j < i then j else i) = min i j := by
      rw [Int.min_def]
      split <;> split <;> omega
    rw [this]
    exact q _ H G [] (Ext.refl s) (.p (.int _))
  · cases e
def absT : List T → Option T
  | [a] => a.int?.map fun i => .p (.int (if i < 0 then -i else i))
  | _ => none
theorem cm_abs : CM K (fun xs H Q => ∃ i, xs = [.int i] ∧ Q (.int (if i < 0 then -i else i)) H) absT := by
  intro G H ts t xs e s r Q q
  unfold absT at e
  split at e
  · rw [Option.map_eq_some_iff] at e
    obtain ⟨i, e1, rfl⟩ := e
    obtain ⟨v, F, rfl, h⟩ := r.one
    rw [h.int e1]
    exact ⟨i, rfl, q _ H G [] (Ext.refl s) (.p (.int _))⟩
  · cases e
/-! ### list, tuple, int, str, sorted -/
def listT : List T → Option T
  | [a] => a.any?.bind fun ds => some (.p (.list ds))
  | _ => none
theorem cm_list : CM K (fun xs H Q => ∃ p ys, xs = [.ref p] ∧ (SqL K H p ys ∨ SqT K H p ys) ∧ ∀ l, H l = none → Q (.ref l) (upd H l (.lst ys))) listT := by
  intro G H ts t xs e s r Q q
  unfold listT at e
  split at e
  · simp only [Option.bind_eq_some_iff] at e
    obtain ⟨ds, e1, e2⟩ := e
    cases e2
    obtain ⟨v, F, rfl, h⟩ := r.one
    obtain ⟨a, vs, rfl, h1, p1⟩ := h.any s e1
    refine ⟨a, vs, rfl, h1, fun l nl => ?_⟩
    have x2 := Ext.new (o := .lst vs) s nl
    exact q _ _ _ [] x2 (.p (.lst upd_same (p1.mono x2.gg)))
  · cases e
def tupleT : List T → Option T
  | [a] => match a.seq? with
    | some ds => some (.p (.tuple ds))
    | none => a.ptup?.bind fun ds => some (.p (.tuple ds))
  | _ => none
theorem cm_tuple : CM K (fun xs H Q => ∃ p ys, xs = [.ref p] ∧ ((SqL K H p ys ∧ ∀ l, H l = none → Q (.ref l) (upd H l (.tup ys))) ∨ (SqT K H p ys ∧ Q (.ref p) H))) tupleT := by
  intro G H ts t xs e s r Q q
  unfold tupleT at e
  split at e
  · split at e
    · rename_i ds e1
      cases e
      obtain ⟨v, F, rfl, h⟩ := r.one
      obtain ⟨a, vs, rfl, h1, p1⟩ := h.seq s e1
      refine ⟨a, vs, rfl, .inl ⟨h1, fun l nl => ?_⟩⟩
      have x2 := Ext.new (o := .tup vs) s nl
      exact q _ _ _ [] x2 (.p (.tup (.inl (.inl upd_same)) (p1.mono x2.gg)))
    · simp only [Option.bind_eq_some_iff] at e
      obtain ⟨ds, e1, e2⟩ := e
      cases e2
      obtain ⟨v, F, rfl, h⟩ := r.one
      obtain ⟨a, vs, rfl, h1, p1⟩ := h.ptup e1
      exact ⟨a, vs, rfl, .inr ⟨Same.seqT s h1, q _ H G [] (Ext.refl s) (.p (.tup h1 p1))⟩⟩
  · cases e
def intT : List T → Option T
  | [.p (.int i)] => some (.p (.int i))
  | [.p (.bool k)] => some (.p (.int (if k then 1 else 0)))
  | [.p (.str z)] => (PySem.intText? z).bind fun n => if z.length ≤ 640 then some (.p (.int n)) else none
  | _ => none
def rIntA : List V → Hp → VK → Prop := fun xs H Q => ((∃ i, xs = [.int i] ∧ Q (.int i) H) ∨ ∃ k, xs = [.bl k] ∧ Q (.int (if k then 1 else 0)) H) ∨ ∃ a n, xs = [.str a] ∧ PySem.intText? a = some n ∧ a.length ≤ 640 ∧ Q (.int n) H
theorem call_intA {X : Cx} : CallR X (.type "int") rIntA := call_int1.or call_int_str
theorem cm_int : CM K rIntA intT := by
  intro G H ts t xs e s r Q q
  unfold intT at e
  split at e
  · cases e
    obtain ⟨v, F, rfl, h⟩ := r.one
    cases h.pure
    exact .inl (.inl ⟨_, rfl, q _ H G [] (Ext.refl s) (.p (.int _))⟩)
  · cases e
    obtain ⟨v, F, rfl, h⟩ := r.one
    cases h.pure
    exact .inl (.inr ⟨_, rfl, q _ H G [] (Ext.refl s) (.p (.int _))⟩)
  · rw [Option.bind_eq_some_iff] at e
    obtain ⟨n, e1, e2⟩ := e
    split at e2
    · rename_i hz
      cases e2
      obtain ⟨v, F, rfl, h⟩ := r.one
      cases h.pure
      exact .inr ⟨_, n, rfl, e1, hz, q _ H G [] (Ext.refl s) (.p (.int _))⟩
    · cases e2
  · cases e
def strT : List T → Option T
  | [.p (.int i)] => if i.natAbs.log2 < 1920 then some (.p (.str (toString i))) else none
  | _ => none
theorem cm_str : CM K (fun xs H Q => ∃ i, xs = [.int i] ∧ i.natAbs.log2 < 1920 ∧ Q (.str (toString i)) H) strT := by
  intro G H ts t xs e s r Q q
  unfold strT at e
  split at e
  · split at e
    · rename_i hz
      cases e
      obtain ⟨v, F, rfl, h⟩ := r.one
      cases h.pure
      exact ⟨_, rfl, hz, q _ H G [] (Ext.refl s) (.p (.str _))⟩
    · cases e
  · cases e
def sortI (ns : List Int) : List Int := ns.mergeSort (fun a b => decide (a ≤ b))
theorem sortI_perm (ns : List Int) : (sortI ns).Perm ns := List.mergeSort_perm ns _
theorem sortI_pair (ns : List Int) : (sortI ns).Pairwise (· ≤ ·) := by
  have h := List.pairwise_mergeSort (le := fun a b : Int => decide (a ≤ b)) (fun a b c h1 h2 => by simp only [decide_eq_true_eq] at *; omega) (fun a b => by simp only [Bool.or_eq_true, decide_eq_true_eq]; omega) ns
  exact h.imp fun h => by simpa using h
def sortedT : List T → Option T
  | [t] => t.seq?.bind fun ds => (intsOf ds).map fun ns => .p (.list ((sortI ns).map PyData.int))
  | _ => none
theorem cm_sorted : CM K (rSortedI K) sortedT := by
  intro G H ts t xs e s r Q q
  unfold sortedT at e
  split at e
  · simp only [Option.bind_eq_some_iff, Option.map_eq_some_iff] at e
    obtain ⟨ds, e1, ns, e2, rfl⟩ := e
    obtain ⟨v, F, rfl, h⟩ := r.one
    obtain ⟨a, vs, rfl, h1, p1⟩ := h.seq s e1
    rw [intsOf_eq e2] at p1
    rw [p1.ints] at h1
    refine ⟨a, ns, rfl, h1, fun ns' p hp hs np => ?_⟩
    have : ns' = sortI ns := PySem.W.ksm_same (hp.trans (sortI_perm ns).symm) hs (sortI_pair ns)
    subst this
    have x2 := Ext.new (o := .lst ((sortI ns).map V.int)) s np
    exact q _ _ _ [] x2 (.p (.lst upd_same (Rps.of_ints _)))
  · cases e
end

/-! ### isinstance(e, T) -/
def tyN : D → String
  | .none => "NoneType"
  | .bool _ => "bool"
  | .int _ => "int"
  | .str _ => "str"
  | .list _ => "list"
  | .tuple _ => "tuple"
  | .dict _ => "dict"
def isi (a b : String) : Bool := a == b || (a == "bool" && b == "int")
def isiT (n : String) : T → Option T := fun t => t.snap.map fun d => .p (.bool (isi (tyN d) n))
def mIsi (n : String) (m : EM) : EM := fun env => (m env).bind (isiT n)
def IsiOk (n : String) : Prop := ∀ a ∈ ["NoneType", "bool", "int", "str", "list", "tuple", "dict"], kitB a n = some (isi a n)
theorem isi_bool : IsiOk "bool" := by unfold IsiOk; decide +kernel
theorem isi_int : IsiOk "int" := by unfold IsiOk; decide +kernel
theorem isi_list : IsiOk "list" := by unfold IsiOk; decide +kernel
theorem isi_tuple : IsiOk "tuple" := by unfold IsiOk; decide +kernel
theorem isi_str : IsiOk "str" := by unfold IsiOk; decide +kernel
theorem tyN_mem (d : D) : tyN d ∈ ["NoneType", "bool", "int", "str", "list", "tuple", "dict"] := by cases d <;> simp [tyN]
theorem Rp.ty {K : PySem.W.Frag} {H : Hp} {v : V} {d : D} (r : Rp K H v d) : TyX K H v (.type (tyN d)) := by
  cases r with
  | non => exact .base .non
  | bl b => exact .base (.bl b)
  | int i => exact .base (.int i)
  | str x => exact .base (.str x)
  | lst h _ => exact .base (.lst h)
  | tup h _ =>
    rcases h with (h | ⟨o, h⟩) | ⟨o, _, _, h, hc, _⟩
    · exact .base (.tup h)
    · exact .fTuple h
    · exact .kTuple h hc
  | dct h _ => exact .base (.dK h)
theorem pm_isi {X : Cx} {e : Expr} {me : EM} {y : Str} {n : String} {p p2 pos : Pos} (hg : Gl X "isinstance") (hm : X.mg "isinstance" = none) (hg2 : Gl X y) (hm2 : X.mg y = none) (hv : bootBuiltins y = some (.type n)) (ok : IsiOk n) (he : PM X e me)
    (hn : y ≠ "__name__" := by decide) (hdb : (y == ("__debug__" : Str)) = false := by decide) (hs : starEach [e, .Name y p2] X.env = (false, eval e X.env) :: starEach [.Name y p2] X.env := by rfl) :
    PM X (.Call (.Name "isinstance" p) [e, .Name y p2] [] pos) (mIsi n me) := by
  refine PE_imp (pe_callB call_isi hg hm boot_isinstance (pa_cons he (pa_cons (pe_bltn (v := .ty n) hg2 hm2 hv rfl hn hdb) pa_nil rfl) hs) (by decide) (by decide) hs rfl) fun σ H Q h => ?_
  obtain ⟨G, env, F, rel, t, e1, q⟩ := h
  simp only [mIsi, Option.bind_eq_some_iff] at e1
  obtain ⟨t1, e2, e3⟩ := e1
  simp only [isiT, Option.map_eq_some_iff] at e3
  obtain ⟨d, e4, rfl⟩ := e3
  refine ⟨G, env, F, rel, t1, e2, fun x H1 G1 F1 x1 r1 => ?_⟩
  exact ⟨x, .ty n, .type (tyN d), .type n, isi (tyN d) n, rfl, .ty n, (r1.live x1.gh e4).ty, kit_ty (ok _ (tyN_mem d)), q _ H1 G1 [] x1 (.p (.bl _))⟩

/-! ### slices -/
def cutL {α : Type} (xs : List α) (lo hi : Option Int) : List α := (xs.drop (HT.sIx xs.length 0 lo)).take (HT.sIx xs.length xs.length hi - HT.sIx xs.length 0 lo)
abbrev OM := En → Option (Option Int)
def oNone : OM := fun _ => some none
def oSome (m : EM) : OM := fun env => (m env).bind fun t => t.int?.map some
def sliceT (t : T) (lo hi : Option Int) : Option T := match t.seq? with
  | some ds => some (.p (.list (cutL ds lo hi)))
  | none => match t.ptup? with
    | some ds => some (.p (.tuple (cutL ds lo hi)))
    | none => match t with
      | .p (.str z) => if z.length ≤ LIM then some (.p (.str (cutS z lo hi))) else none
      | _ => none
def mSlice (m : EM) (lo hi : OM) : EM := fun env => (m env).bind fun t => (lo env).bind fun a => (hi env).bind fun b => sliceT t a b
theorem Rps.cut {K : PySem.W.Frag} {G : Hp} {vs : List V} {ds : List D} (r : Rps K G vs ds) (lo hi : Option Int) : Rps K G (cutV vs lo hi) (cutL ds lo hi) := by
  unfold cutV cutL
  rw [r.length]
  exact (r.drop _).take _
def rSlAll (K : PySem.W.Frag) : V → Option Int → Option Int → Hp → VK → Prop := fun x lo hi H Q => (rSlL K x lo hi H Q ∨ rSlA K x lo hi H Q) ∨ rSlS x lo hi H Q
theorem sl_all {X : Cx} : SlR X (rSlAll X.K) := (sl_list.or sl_tupA).or sl_str
def tOM (K : PySem.W.Frag) (m : OM) : TO := fun σ H Q => ∃ G env F, Rel K G H env σ F ∧ ∃ o, m env = some o ∧ ∀ H' G', Ext G H G' H' → Q o H'
theorem PO_imp {X : Cx} {e : Option Expr} {t t' : TO} (h : PO X e t) (i : ∀ σ H Q, t' σ H Q → t σ H Q) : PO X e t' := ⟨fun pins s σ H Q I q => h.run pins s σ H Q I (i σ H Q q)⟩
abbrev POM (X : Cx) (e : Option Expr) (m : OM) : Prop := PO X e (tOM X.K m)
section
variable {X : Cx} {e : Expr} {me : EM} {lo hi : Option Expr} {ml mh : OM} {pos p2 : Pos}
theorem pom_none : POM X none oNone := PO_imp po_none fun σ H Q h => by
  obtain ⟨G, env, F, rel, o, e1, q⟩ := h
  cases e1
  exact q H G (Ext.refl rel.sm)
theorem pom_some (h : PM X e me) : POM X (some e) (oSome me) := PO_imp (po_some h) fun σ H Q h => by
  obtain ⟨G, env, F, rel, o, e1, q⟩ := h
  simp only [oSome, Option.bind_eq_some_iff, Option.map_eq_some_iff] at e1
  obtain ⟨t, e2, i, e3, rfl⟩ := e1
  exact ⟨G, env, F, rel, t, e2, fun v H' G' F' x r => ⟨i, r.int e3, q H' G' x⟩⟩
theorem pm_slice (he : PM X e me) (hl : POM X lo ml) (hh : POM X hi mh) : PM X (.Subscript e (.Slice lo hi none p2) pos) (mSlice me ml mh) := by
  refine PE_imp (pe_slice sl_all he hl hh) fun σ H Q h => ?_
  obtain ⟨G, env, F, rel, t, e1, q⟩ := h
  simp only [mSlice, Option.bind_eq_some_iff] at e1
  obtain ⟨t1, e2, a, e3, b, e4, e5⟩ := e1
  refine ⟨G, env, F, rel, t1, e2, fun x H1 G1 F1 x1 r1 => ⟨G1, env, F, rel.ext x1, a, e3, fun H2 G2 x2 => ⟨G2, env, F, (rel.ext x1).ext x2, b, e4, fun H3 G3 x3 => ?_⟩⟩⟩
  have x23 := x2.trans x3
  have x13 := x1.trans x23
  have r3 := r1.keep x23.gg (Keep.of x23.hh)
  unfold sliceT at e5
  split at e5
  · rename_i ds e6
    cases e5
    obtain ⟨p, vs, rfl, h1, p1⟩ := r3.seq x3.gh e6
    refine .inl (.inl ⟨p, vs, rfl, h1, fun l nl => ?_⟩)
    have x4 := Ext.new (o := .lst (cutV vs a b)) x3.gh nl
    exact q _ _ _ [] (x13.trans x4) (.p (.lst upd_same ((p1.cut a b).mono x4.gg)))
  · split at e5
    · rename_i ds e6
      cases e5
      obtain ⟨p, vs, rfl, h1, p1⟩ := r3.ptup e6
      refine .inl (.inr ⟨p, vs, rfl, Same.seqT x3.gh h1, fun z => ?_, fun _ l nl => ?_⟩)
      · have e7 : cutL ds a b = ds := by
          unfold cutL
          rw [← p1.length, z.1, z.2, p1.length]
          simp
        rw [e7] at q
        exact q _ H3 G3 [] x13 (.p (.tup h1 p1))
      · have x4 := Ext.new (o := .tup (cutV vs a b)) x3.gh nl
        exact q _ _ _ [] (x13.trans x4) (.p (.tup (.inl (.inl upd_same)) ((p1.cut a b).mono x4.gg)))
    · split at e5
      · split at e5
        · rename_i hz
          cases e5
          cases r3.pure
          exact .inr ⟨_, rfl, Nat.le_trans hz LIM_line, q _ H3 G3 [] x13 (.p (.str _))⟩
        · cases e5
      · cases e5
/-- x[::-1] of a list -/
def mRev (m : EM) : EM := fun env => (m env).bind fun t => t.seq?.map fun ds => .p (.list ds.reverse)
theorem pm_rev {k : Nat} {p1 p3 : Pos} (he : PM X e me) : PM X (.Subscript e (.Slice none none (some (.UnaryOp .USub (.Constant (.int 1) k p1) p2)) p3) pos) (mRev me) := by
  refine PE_imp (pe_revL he) fun σ H Q h => ?_
  obtain ⟨G, env, F, rel, t, e1, q⟩ := h
  simp only [mRev, Option.bind_eq_some_iff, Option.map_eq_some_iff] at e1
  obtain ⟨t1, e2, ds, e3, rfl⟩ := e1
  refine ⟨G, env, F, rel, t1, e2, fun x H1 G1 F1 x1 r1 => ?_⟩
  obtain ⟨p, vs, rfl, h1, p1⟩ := r1.seq x1.gh e3
  refine ⟨p, vs, rfl, h1, fun l nl => ?_⟩
  have x4 := Ext.new (o := .lst vs.reverse) x1.gh nl
  exact q _ _ _ [] (x1.trans x4) (.p (.lst upd_same (p1.reverse.mono x4.gg)))
/-- -1 -/
def mNeg (m : EM) : EM := fun env => (m env).bind fun t => t.int?.map fun i => .p (.int (-i))
theorem pm_neg (he : PM X e me) : PM X (.UnaryOp .USub e pos) (mNeg me) := by
  refine PE_imp (pe_un un_neg he) fun σ H Q h => ?_
  obtain ⟨G, env, F, rel, t, e1, q⟩ := h
  simp only [mNeg, Option.bind_eq_some_iff, Option.map_eq_some_iff] at e1
  obtain ⟨t1, e2, i, e3, rfl⟩ := e1
  exact ⟨G, env, F, rel, t1, e2, fun x H1 G1 F1 x1 r1 => ⟨i, r1.int e3, q _ H1 G1 [] x1 (.p (.int _))⟩⟩
/-- list(range(n)), list(range(a, b)) -/
def rangeD (lo hi : Int) : List D := (List.range (hi - lo).toNat).map fun (k : Nat) => PyData.int (lo + (k : Int))
theorem Rps.rng {K : PySem.W.Frag} {G : Hp} (lo hi : Int) : Rps K G (rgV lo hi) (rangeD lo hi) := by
  unfold rgV rangeD
  generalize List.range (hi - lo).toNat = l
  induction l with
  | nil => exact .nil
  | cons k r ih => exact .cons (.int _) ih
def mListR1 (m : EM) : EM := fun env => (m env).bind fun t => t.int?.bind fun j => if j ≤ 1000000 ∧ -1000000 ≤ j then some (.p (.list (rangeD 0 j))) else none
def mListR2 (m m' : EM) : EM := fun env => (m env).bind fun t => t.int?.bind fun i => (m' env).bind fun u => u.int?.bind fun j => if (j ≤ 1000000 ∧ -1000000 ≤ j) ∧ (i ≤ 1000000 ∧ -1000000 ≤ i) then some (.p (.list (rangeD i j))) else none
theorem pm_listR1 {p p3 : Pos} (hc : X.calm = true) (hg : Gl X "list") (hm : X.mg "list" = none) (hg2 : Gl X "range") (hm2 : X.mg "range" = none) (he : PM X e me) (na : starEach [e] X.env = (false, eval e X.env) :: starEach [] X.env := by rfl) :
    PM X (.Call (.Name "list" p) [.Call (.Name "range" p2) [e] [] p3] [] pos) (mListR1 me) := by
  refine PE_imp (pe_listRg hc hg hm (prg_1 hg2 hm2 he na)) fun σ H Q h => ?_
  obtain ⟨G, env, F, rel, t, e1, q⟩ := h
  simp only [mListR1, Option.bind_eq_some_iff] at e1
  obtain ⟨t1, e2, j, e3, e4⟩ := e1
  split at e4
  · rename_i hz
    cases e4
    refine ⟨G, env, F, rel, t1, e2, fun x H1 G1 F1 x1 r1 => ?_⟩
    refine ⟨j, r1.int e3, ⟨by omega, by omega, by omega, by omega, by omega⟩, fun l nl => ?_⟩
    have x4 := Ext.new (o := .lst (rgV 0 j)) x1.gh nl
    exact q _ _ _ [] (x1.trans x4) (.p (.lst upd_same (Rps.rng 0 j)))
  · cases e4
end
end M
/-! M5: targets, what is walked, comprehensions. -/
namespace M
open PySem PySem.Spec PyProof.Rows L2

/-! ### targets -/
/-- σ' is σ but for the slots js -/
def Only (js : List Nat) (σ σ' : L2.St) : Prop := σ'.length = σ.length ∧ ∀ i, i ∉ js → σ'[i]? = σ[i]?
theorem Only.refl (js : List Nat) (σ : L2.St) : Only js σ σ := ⟨rfl, fun _ _ => rfl⟩
theorem Only.trans {js : List Nat} {a b c : L2.St} (x : Only js a b) (y : Only js b c) : Only js a c := ⟨y.1.trans x.1, fun i h => (y.2 i h).trans (x.2 i h)⟩
theorem Only.mono {js ks : List Nat} {a b : L2.St} (x : Only js a b) (h : ∀ j ∈ js, j ∈ ks) : Only ks a b := ⟨x.1, fun i hi => x.2 i fun z => hi (h i z)⟩
theorem Only.set {σ : L2.St} {i : Nat} {o : Option V} : Only [i] σ (σ.set i o) := ⟨List.length_set, fun j h => by
  rw [List.getElem?_set_ne]
  intro z
  exact h (by simp [z])⟩
theorem wipe_get (σ : L2.St) : ∀ (vs : List Nat) (i : Nat), (wipe σ vs)[i]? = if i ∈ vs then (if i < σ.length then some none else none) else σ[i]?
  | [], i => by simp [wipe]
  | v :: vs, i => by
    unfold wipe
    by_cases h : v = i
    · subst h
      rw [List.getElem?_set_self']
      rw [wipe_get σ vs v]
      simp only [List.mem_cons, true_or, if_true]
      by_cases hv : v < σ.length
      · rw [if_pos hv]
        split
        · rfl
        · rw [List.getElem?_eq_getElem hv]; rfl
      · rw [if_neg hv]
        split
        · rfl
        · rw [List.getElem?_eq_none (by omega)]; rfl
    · rw [List.getElem?_set_ne h, wipe_get σ vs i]
      have : (i ∈ v :: vs) ↔ i ∈ vs := by
        simp only [List.mem_cons]
        constructor
        · intro z
          rcases z with z | z
          · exact absurd z.symm h
          · exact z
        · exact .inr
      simp only [this]
theorem Only.wipe {js vs : List Nat} {a b : L2.St} (x : Only js a b) (h : ∀ j ∈ js, j ∈ vs) : L2.wipe b vs = L2.wipe a vs := by
  apply List.ext_getElem?
  intro i
  rw [wipe_get, wipe_get, x.1]
  by_cases hi : i ∈ vs
  · rw [if_pos hi, if_pos hi]
  · rw [if_neg hi, if_neg hi]
    exact x.2 i fun z => hi (h i z)
def wipeE (env : En) : List Nat → En
  | [] => env
  | v :: vs => (wipeE env vs).set v none
theorem ES.wipe {K : PySem.W.Frag} {G H : Hp} {env : En} {σ : L2.St} {F : List Addr} (r : ES K G H env σ F) : ∀ vs : List Nat, ∃ F', ES K G H (wipeE env vs) (L2.wipe σ vs) F' ∧ F'.Sublist F
  | [] => ⟨F, r, List.Sublist.refl _⟩
  | v :: vs => by
    obtain ⟨F1, h1, h2⟩ := ES.wipe r vs
    obtain ⟨F2, h3, h4⟩ := ES.drop v none h1
    exact ⟨F2, h3, h4.trans h2⟩
theorem Rel.wipe {K : PySem.W.Frag} {G H : Hp} {env : En} {σ : L2.St} {F : List Addr} (r : Rel K G H env σ F) (vs : List Nat) : ∃ F', Rel K G H (wipeE env vs) (L2.wipe σ vs) F' := by
  obtain ⟨F', h1, h2⟩ := r.es.wipe vs
  exact ⟨F', h1, r.nd.sublist h2, fun a ha => r.fr a (h2.subset ha), r.sm⟩
/-- a pure value is put into a slot -/
theorem Rel.putp {K : PySem.W.Frag} {G H : Hp} {env : En} {σ : L2.St} {F : List Addr} (r : Rel K G H env σ F) (i : Nat) {v : V} {d : D} (h : Rp K G v d) : ∃ F', Rel K G H (env.set i (some (.p d))) (σ.set i (some v)) F' ∧ ∀ a ∈ F', a ∈ F := by
  obtain ⟨F', h1, h2, h3⟩ := ES.put (TR.p (H := H) h) i r.es
  have h4 : ∀ a ∈ F', a ∈ F := fun a ha => (h2 a ha).elim (fun z => nomatch z) id
  exact ⟨F', ⟨h1, h3 r.nd .nil (fun _ z => nomatch z), fun a ha => r.fr a (h4 a ha), r.sm⟩, h4⟩

def gM (K : PySem.W.Frag) (js : List Nat) (g : D → En → Option En) : TG := fun v σ H Q => ∃ G env F d, Rel K G H env σ F ∧ Rp K G v d ∧ ∃ env', g d env = some env' ∧ ∀ σ' F', Rel K G H env' σ' F' → (∀ a ∈ F', a ∈ F) → Only js σ σ' → Q σ' H
abbrev GM (X : Cx) (tg : Expr) (js : List Nat) (g : D → En → Option En) : Prop := PG X tg (gM X.K js g)
def gsM (K : PySem.W.Frag) (js : List Nat) (g : List D → En → Option En) : TGs := fun vs σ H Q => ∃ G env F ds, Rel K G H env σ F ∧ Rps K G vs ds ∧ ∃ env', g ds env = some env' ∧ ∀ σ' F', Rel K G H env' σ' F' → (∀ a ∈ F', a ∈ F) → Only js σ σ' → Q σ' H
abbrev GsM (X : Cx) (tg : List Expr) (js : List Nat) (g : List D → En → Option En) : Prop := PGs X tg (gsM X.K js g)
theorem PG_imp {X : Cx} {e : Expr} {t t' : TG} (h : PG X e t) (i : ∀ v σ H Q, t' v σ H Q → t v σ H Q) : PG X e t' := ⟨fun pins s σ H v u Q I r q => h.run pins s σ H v u Q I r (i v σ H Q q)⟩
theorem PGs_imp {X : Cx} {e : List Expr} {t t' : TGs} (h : PGs X e t) (i : ∀ v σ H Q, t' v σ H Q → t v σ H Q) : PGs X e t' := ⟨fun pins s σ H v u Q I r q => h.run pins s σ H v u Q I r (i v σ H Q q)⟩
def gNm (i : Nat) : D → En → Option En := fun d env => some (env.set i (some (.p d)))
def gNl : List D → En → Option En
  | [], env => some env
  | _ :: _, _ => none
def gCn (g : D → En → Option En) (gs : List D → En → Option En) : List D → En → Option En
  | [], _ => none
  | d :: r, env => (g d env).bind fun e => gs r e
def gTp (gs : List D → En → Option En) : D → En → Option En
  | .tuple ds, env => gs ds env
  | _, _ => none
section
variable {X : Cx} {pos : Pos}
theorem gm_name {i : Nat} {x : Str} (hN : X.N.Nodup) (hi : X.N[i]? = some x := by rfl) (hx : Loc X.env.scope x := by first | exact Or.inl rfl | exact Or.inr rfl) (hf : X.fn x = true ∨ X.env.scope.names.lookup x = some .local := by first | exact .inl rfl | exact .inr rfl | assumption) : GM X (.Name x pos) [i] (gNm i) := by
  refine PG_imp (pg_name (i := i) hN hi hx hf) fun v σ H Q h => ?_
  obtain ⟨G, env, F, d, rel, r, env', e, q⟩ := h
  cases e
  obtain ⟨F', h1, h2⟩ := rel.putp i r
  exact q _ F' h1 h2 Only.set
theorem gsm_nil : GsM X [] [] gNl := by
  refine PGs_imp pgs_nil fun vs σ H Q h => ?_
  obtain ⟨G, env, F, ds, rel, r, env', e, q⟩ := h
  cases r with
  | nil => cases e; exact ⟨rfl, q _ F rel (fun _ z => z) (Only.refl _ _)⟩
  | cons _ _ => cases e
theorem gsm_cons {e : Expr} {es : List Expr} {js ks : List Nat} {g : D → En → Option En} {gs : List D → En → Option En} (h1 : GM X e js g) (h2 : GsM X es ks gs)
    (hs : (assignEach (e :: es) X.env).map (·.2) = assign e X.env :: (assignEach es X.env).map (·.2) := by rfl) : GsM X (e :: es) (js ++ ks) (gCn g gs) := by
  refine PGs_imp (pgs_cons h1 h2 hs) fun vs σ H Q h => ?_
  obtain ⟨G, env, F, ds, rel, r, env', e, q⟩ := h
  cases r with
  | nil => cases e
  | cons r1 r2 =>
    simp only [gCn, Option.bind_eq_some_iff] at e
    obtain ⟨e1, e2, e3⟩ := e
    refine ⟨_, _, rfl, G, env, F, _, rel, r1, e1, e2, fun σ1 F1 rel1 s1 o1 => ?_⟩
    exact ⟨G, e1, F1, _, rel1, r2, env', e3, fun σ2 F2 rel2 s2 o2 => q σ2 F2 rel2 (fun a ha => s1 a (s2 a ha)) ((o1.mono fun j hj => List.mem_append_left _ hj).trans (o2.mono fun j hj => List.mem_append_right _ hj))⟩
def GLen (gs : List D → En → Option En) (n : Nat) : Prop := ∀ ds env env', gs ds env = some env' → ds.length = n
theorem gl_nil : GLen gNl 0 := fun ds env env' h => by
  cases ds with
  | nil => rfl
  | cons _ _ => cases h
theorem gl_cons {g : D → En → Option En} {gs : List D → En → Option En} {n : Nat} (h : GLen gs n) : GLen (gCn g gs) (n + 1) := fun ds env env' e => by
  cases ds with
  | nil => cases e
  | cons d r =>
    simp only [gCn, Option.bind_eq_some_iff] at e
    obtain ⟨_, _, e⟩ := e
    rw [List.length_cons, h _ _ _ e]
theorem gm_tup {es : List Expr} {k n : Nat} {js : List Nat} {gs : List D → En → Option En} (hc : X.calm = true) (h : GsM X es js gs) (hl : GLen gs n) (hn : (assignEach es X.env).length = n := by rfl) (hst : (assignEach es X.env).findIdx? (·.1) = none := by rfl) : GM X (.Tuple es k pos) js (gTp gs) := by
  refine PG_imp (pg_tup hc h hn hst) fun v σ H Q h => ?_
  obtain ⟨G, env, F, d, rel, r, env', e, q⟩ := h
  cases r with
  | tup h1 h2 =>
    rename_i a xs ds
    exact ⟨a, xs, rfl, Same.seqT rel.sm h1, by rw [h2.length]; exact hl ds env env' e, G, env, F, ds, rel, h2, env', e, q⟩
  | _ => cases e
end

/-! ### what is walked -/
/-- .. its items frozen in G0 -/
structure Wk2 (K : PySem.W.Frag) (B G0 : Hp) (J : It) (ds : List D) : Prop where
  go : ∀ i H, Same B H → i < ds.length → J.go i H
  stop : ∀ i H, Same B H → ds.length ≤ i → J.stop i H
  yld : ∀ i H x H' G d, Same B H → Same G0 G → Same G H → J.yld i H x H' → ds[i]? = some d → ∃ G', Ext G H G' H' ∧ Rp K G' x d
/-- fz: the source is frozen -/
def iM (K : PySem.W.Frag) (fz : Bool) (mi : En → Option (List D)) : TI := fun σ H R => ∃ G env F, Rel K G H env σ F ∧ ∃ ds, mi env = some ds ∧ ∀ J H' G', Ext G H G' H' → Wk2 K (if fz then G' else H') G' J ds → R J H'
abbrev PIM (X : Cx) (tg iter : Expr) (fz : Bool) (mi : En → Option (List D)) : Prop := PI X tg iter (iM X.K fz mi)
theorem PI_imp {X : Cx} {tg e : Expr} {t t' : TI} (h : PI X tg e t) (i : ∀ σ H Q, t' σ H Q → t σ H Q) : PI X tg e t' := ⟨fun pins s σ H Q I q => h.run pins s σ H Q I (i σ H Q q)⟩
theorem PI_or {X : Cx} {tg e : Expr} {t t' : TI} (h : PI X tg e t) (h' : PI X tg e t') : PI X tg e (fun σ H R => t σ H R ∨ t' σ H R) := ⟨fun pins s σ H Q I q => by
  rcases q with q | q
  · exact h.run pins s σ H Q I q
  · exact h'.run pins s σ H Q I q⟩
section
variable {K : PySem.W.Frag} {B G0 : Hp}
theorem wk_list {a : Addr} {vs : List V} {ds : List D} (h : SqL K B a vs) (r : Rps K G0 vs ds) : Wk2 K B G0 (Itl K a) ds where
  go := fun i H s hi => by
    have hi' : i < vs.length := by rw [r.length]; exact hi
    exact ⟨vs, vs[i], s.seq h, by simp [hi']⟩
  stop := fun i H s hi => ⟨vs, s.seq h, by rw [r.length]; exact hi⟩
  yld := fun i H x H' G d s s0 sg y e => by
    obtain ⟨rfl, y⟩ := y
    obtain ⟨v, h1, h2⟩ := r.get e
    rw [y vs (s.seq h)] at h1
    cases h1
    exact ⟨G, Ext.refl sg, h2.mono s0⟩
theorem wk_tup {a : Addr} {vs : List V} {ds : List D} (h : SqT K B a vs) (r : Rps K G0 vs ds) : Wk2 K B G0 (Itt K a) ds where
  go := fun i H s hi => by
    have hi' : i < vs.length := by rw [r.length]; exact hi
    exact ⟨vs, vs[i], Same.seqT s h, by simp [hi']⟩
  stop := fun i H s hi => ⟨vs, Same.seqT s h, by rw [r.length]; exact hi⟩
  yld := fun i H x H' G d s s0 sg y e => by
    obtain ⟨rfl, y⟩ := y
    obtain ⟨v, h1, h2⟩ := r.get e
    rw [y vs (Same.seqT s h)] at h1
    cases h1
    exact ⟨G, Ext.refl sg, h2.mono s0⟩
theorem wk_range {lo : Int} {n : Nat} : Wk2 K B G0 (Itr lo n) ((List.range n).map fun (k : Nat) => PyData.int (lo + (k : Int))) where
  go := fun i H s hi => by
    have : i < n := by simpa using hi
    exact this
  stop := fun i H s hi => by
    have : n ≤ i := by simpa using hi
    exact this
  yld := fun i H x H' G d s s0 sg y e => by
    obtain ⟨rfl, rfl⟩ := y
    rw [List.getElem?_map] at e
    rw [Option.map_eq_some_iff] at e
    obtain ⟨k, e1, rfl⟩ := e
    have : k = i := by
      rw [List.getElem?_eq_some_iff] at e1
      obtain ⟨_, e2⟩ := e1
      simpa using e2.symm
    subst this
    exact ⟨G, Ext.refl sg, .int _⟩
end
section
variable {X : Cx} {tg : Expr} {e e2 : Expr} {me me2 : EM} {pos p : Pos}
/-- for x in e: a list, a tuple, the script; frozen -/
def T.fz? : T → Option (List D)
  | .p (.list ds) => some ds
  | .p (.tuple ds) => some ds
  | .sc ns => some (ns.map PyData.int)
  | _ => none
/-- a frozen list -/
def T.fzl? : T → Option (List D)
  | .p (.list ds) => some ds
  | .sc ns => some (ns.map PyData.int)
  | _ => none
theorem TR.fzl {K : PySem.W.Frag} {G H : Hp} {t : T} {v : V} {F : List Addr} (r : TR K G H t v F) {ds : List D} (e : t.fzl? = some ds) : ∃ a vs, v = .ref a ∧ SqL K G a vs ∧ Rps K G vs ds := by
  cases r with
  | p h =>
    cases h with
    | lst h r => simp [T.fzl?] at e; subst e; exact ⟨_, _, rfl, .inl (.inl h), r⟩
    | _ => simp [T.fzl?] at e
  | sc h => simp only [T.fzl?, Option.some.injEq] at e; subst e; exact ⟨_, _, rfl, h, Rps.of_ints _⟩
  | _ => simp [T.fzl?] at e
def iSeq (me : EM) : En → Option (List D) := fun env => (me env).bind T.fz?
def iSeqB (me : EM) : En → Option (List D) := fun env => (me env).bind T.any?
theorem pim_seq (he : PM X e me) : PIM X tg e true (iSeq me) := by
  refine PI_imp (PI_or (pi_list he) (pi_tup he)) fun σ H R h => ?_
  obtain ⟨G, env, F, rel, ds, e1, q⟩ := h
  simp only [iSeq, Option.bind_eq_some_iff] at e1
  obtain ⟨t, e2, e3⟩ := e1
  cases t with
  | p d =>
    cases d with
    | list ds' =>
      simp only [T.fz?, Option.some.injEq] at e3; subst e3
      refine .inl ⟨G, env, F, rel, _, e2, fun v H' G' F' x r => ?_⟩
      cases r.pure with
      | lst h1 h2 => exact ⟨_, rfl, ⟨_, .inl (.inl (x.gh _ _ h1))⟩, q _ H' G' x (wk_list (.inl (.inl h1)) h2)⟩
    | tuple ds' =>
      simp only [T.fz?, Option.some.injEq] at e3; subst e3
      refine .inr ⟨G, env, F, rel, _, e2, fun v H' G' F' x r => ?_⟩
      cases r.pure with
      | tup h1 h2 => exact ⟨_, rfl, ⟨_, Same.seqT x.gh h1⟩, q _ H' G' x (wk_tup h1 h2)⟩
    | _ => simp [T.fz?] at e3
  | sc ns =>
    simp only [T.fz?, Option.some.injEq] at e3; subst e3
    refine .inl ⟨G, env, F, rel, _, e2, fun v H' G' F' x r => ?_⟩
    cases r with
    | sc h1 => exact ⟨_, rfl, ⟨_, x.gh.seq h1⟩, q _ H' G' x (wk_list h1 (Rps.of_ints ns))⟩
  | _ => simp [T.fz?] at e3
/-- .. borrowed: a comprehension's -/
theorem pim_seqB (he : PM X e me) : PIM X tg e false (iSeqB me) := by
  refine PI_imp (PI_or (pi_list he) (pi_tup he)) fun σ H R h => ?_
  obtain ⟨G, env, F, rel, ds, e1, q⟩ := h
  simp only [iSeqB, Option.bind_eq_some_iff] at e1
  obtain ⟨t, e2, e3⟩ := e1
  unfold T.any? at e3
  split at e3
  · rename_i e4
    cases e3
    refine .inl ⟨G, env, F, rel, _, e2, fun v H' G' F' x r => ?_⟩
    obtain ⟨a, vs, rfl, h1, p1⟩ := r.seq x.gh e4
    exact ⟨_, rfl, ⟨_, h1⟩, q _ H' G' x (wk_list h1 p1)⟩
  · refine .inr ⟨G, env, F, rel, _, e2, fun v H' G' F' x r => ?_⟩
    obtain ⟨a, vs, rfl, h1, p1⟩ := r.tup x.gh e3
    exact ⟨_, rfl, ⟨_, h1⟩, q _ H' G' x (wk_tup h1 p1)⟩
def smallI (j : Int) : Prop := -1000000 ≤ j ∧ j ≤ 1000000
instance (j : Int) : Decidable (smallI j) := inferInstanceAs (Decidable (_ ∧ _))
def iRng1 (me : EM) : En → Option (List D) := fun env => (me env).bind fun t => t.int?.bind fun j => if smallI j then some (rangeD 0 j) else none
def iRng2 (me me2 : EM) : En → Option (List D) := fun env => (me env).bind fun t => t.int?.bind fun i => (me2 env).bind fun u => u.int?.bind fun j => if smallI i ∧ smallI j then some (rangeD i j) else none
theorem pim_range1 {fz : Bool} (hg : Gl X "range") (hm : X.mg "range" = none) (he : PM X e me) (hs : starEach [e] X.env = [(false, eval e X.env)] := by rfl) : PIM X tg (.Call (.Name "range" p) [e] [] pos) fz (M.iRng1 me) := by
  refine PI_imp (pi_range1 hg hm (pam_cons he pam_nil hs) hs) fun σ H R h => ?_
  obtain ⟨G, env, F, rel, ds, e1, q⟩ := h
  simp only [M.iRng1, Option.bind_eq_some_iff] at e1
  obtain ⟨t, e2, j, e3, e4⟩ := e1
  split at e4
  · rename_i hz
    cases e4
    refine ⟨G, env, F, rel, [t], by simp [aCons, aNil, e2], fun vs H' G' x r => ?_⟩
    obtain ⟨v, F', rfl, h⟩ := r.one
    rw [h.int e3]
    unfold smallI at hz
    refine ⟨j, rfl, by omega, by omega, q _ H' G' x ?_⟩
    have := wk_range (K := X.K) (B := if fz then G' else H') (G0 := G') (lo := 0) (n := j.toNat)
    unfold rangeD
    rw [Int.sub_zero]
    exact this
  · cases e4
theorem pim_range2 {fz : Bool} (hg : Gl X "range") (hm : X.mg "range" = none) (he : PM X e me) (he2 : PM X e2 me2) (hs : starEach [e, e2] X.env = [(false, eval e X.env), (false, eval e2 X.env)] := by rfl) (hs2 : starEach [e2] X.env = [(false, eval e2 X.env)] := by rfl) :
    PIM X tg (.Call (.Name "range" p) [e, e2] [] pos) fz (M.iRng2 me me2) := by
  refine PI_imp (pi_range2 hg hm (pam_cons he (pam_cons he2 pam_nil hs2) (by rw [hs, hs2])) hs hs2) fun σ H R h => ?_
  obtain ⟨G, env, F, rel, ds, e1, q⟩ := h
  simp only [M.iRng2, Option.bind_eq_some_iff] at e1
  obtain ⟨t, e2, i, e3, u, e4, j, e5, e6⟩ := e1
  split at e6
  · rename_i hz
    cases e6
    refine ⟨G, env, F, rel, [t, u], by simp [aCons, aNil, e2, e4], fun vs H' G' x r => ?_⟩
    obtain ⟨v, w, F', F2, rfl, h, h'⟩ := r.two
    rw [h.int e3, h'.int e5]
    unfold smallI at hz
    exact ⟨i, j, rfl, ⟨by omega, by omega, by omega, by omega⟩, q _ H' G' x wk_range⟩
  · cases e6
/-- zip of two -/
def zipD : List D → List D → List D
  | a :: r, b :: t => .tuple [a, b] :: zipD r t
  | _, _ => []
theorem zipD_get : ∀ {xs ys : List D} {i : Nat} {d : D}, (zipD xs ys)[i]? = some d → ∃ a b, xs[i]? = some a ∧ ys[i]? = some b ∧ d = .tuple [a, b]
  | [], _, _, _, e => by simp [zipD] at e
  | _ :: _, [], _, _, e => by simp [zipD] at e
  | a :: r, b :: t, 0, d, e => by simp [zipD] at e; exact ⟨a, b, rfl, rfl, e.symm⟩
  | a :: r, b :: t, i + 1, d, e => by
    obtain ⟨x, y, h1, h2, h3⟩ := zipD_get (xs := r) (ys := t) (i := i) (d := d) (by simpa [zipD] using e)
    exact ⟨x, y, by simpa using h1, by simpa using h2, h3⟩
theorem zipD_length : ∀ (xs ys : List D), (zipD xs ys).length = min xs.length ys.length
  | [], _ => by simp [zipD]
  | _ :: _, [] => by simp [zipD]
  | a :: r, b :: t => by simp [zipD, zipD_length r t]
def iZp (me me2 : EM) : En → Option (List D) := fun env => (me env).bind fun t => (me2 env).bind fun u => match t.fzl?, u.fzl? with
  | some xs, some ys => some (zipD xs ys)
  | _, _ => match t.ptup?, u.ptup? with
    | some xs, some ys => some (zipD xs ys)
    | _, _ => none
theorem wk_zip {K : PySem.W.Frag} {B G0 : Hp} {a b : Addr} {vs ws : List V} {xs ys : List D} (h1 : SqL K B a vs) (h2 : SqL K B b ws) (r1 : Rps K G0 vs xs) (r2 : Rps K G0 ws ys) : Wk2 K B G0 (Itz K a b) (zipD xs ys) where
  go := fun i H s hi => by
    rw [zipD_length] at hi
    have l1 := r1.length
    have l2 := r2.length
    exact ⟨vs, ws, vs[i], ws[i], s.seq h1, s.seq h2, by simp, by simp⟩
  stop := fun i H s hi => by
    rw [zipD_length] at hi
    have l1 := r1.length
    have l2 := r2.length
    exact ⟨vs, ws, s.seq h1, s.seq h2, by omega⟩
  yld := fun i H x H' G d s s0 sg y e => by
    obtain ⟨T, u, w, rfl, nT, rfl, y1, y2⟩ := y
    obtain ⟨d1, d2, e1, e2, rfl⟩ := zipD_get e
    obtain ⟨v1, g1, p1⟩ := r1.get e1
    obtain ⟨v2, g2, p2⟩ := r2.get e2
    rw [y1 vs (s.seq h1)] at g1
    rw [y2 ws (s.seq h2)] at g2
    cases g1
    cases g2
    have x2 := Ext.new (o := .tup [u, w]) sg nT
    exact ⟨_, x2, .tup (.inl (.inl upd_same)) (.cons ((p1.mono s0).mono x2.gg) (.cons ((p2.mono s0).mono x2.gg) .nil))⟩
theorem wk_zipT {K : PySem.W.Frag} {B G0 : Hp} {a b : Addr} {vs ws : List V} {xs ys : List D} (h1 : SqT K B a vs) (h2 : SqT K B b ws) (r1 : Rps K G0 vs xs) (r2 : Rps K G0 ws ys) : Wk2 K B G0 (RZ.ItzT K a b) (zipD xs ys) where
  go := fun i H s hi => by
    rw [zipD_length] at hi
    have l1 := r1.length
    have l2 := r2.length
    exact ⟨vs, ws, vs[i], ws[i], Same.seqT s h1, Same.seqT s h2, by simp, by simp⟩
  stop := fun i H s hi => by
    rw [zipD_length] at hi
    have l1 := r1.length
    have l2 := r2.length
    exact ⟨vs, ws, Same.seqT s h1, Same.seqT s h2, by omega⟩
  yld := fun i H x H' G d s s0 sg y e => by
    obtain ⟨T, u, w, rfl, nT, rfl, y1, y2⟩ := y
    obtain ⟨d1, d2, e1, e2, rfl⟩ := zipD_get e
    obtain ⟨v1, g1, p1⟩ := r1.get e1
    obtain ⟨v2, g2, p2⟩ := r2.get e2
    rw [y1 vs (Same.seqT s h1)] at g1
    rw [y2 ws (Same.seqT s h2)] at g2
    cases g1
    cases g2
    have x2 := Ext.new (o := .tup [u, w]) sg nT
    exact ⟨_, x2, .tup (.inl (.inl upd_same)) (.cons ((p1.mono s0).mono x2.gg) (.cons ((p2.mono s0).mono x2.gg) .nil))⟩
theorem pim_zip {elts : List Expr} {kk : Nat} {tpos : Pos} (hg : Gl X "zip") (hm : X.mg "zip" = none) (he : PM X e me) (he2 : PM X e2 me2) (hs : starEach [e, e2] X.env = (false, eval e X.env) :: starEach [e2] X.env := by rfl)
    (hs2 : starEach [e2] X.env = (false, eval e2 X.env) :: starEach [] X.env := by rfl) (hpl : (backTo pos (starEach [e2] X.env)).any (·.1) = false := by rfl) :
    PIM X (.Tuple elts kk tpos) (.Call (.Name "zip" p) [e, e2] [] pos) true (iZp me me2) := by
  refine PI_imp (RZ.pi_zipA hg hm (pam_cons he (pam_cons he2 pam_nil hs2) hs) hs hpl) fun σ H R h => ?_
  obtain ⟨G, env, F, rel, ds, e1, q⟩ := h
  simp only [iZp, Option.bind_eq_some_iff] at e1
  obtain ⟨t, e2, u, e3, e4⟩ := e1
  refine ⟨G, env, F, rel, [t, u], by simp [aCons, aNil, e2, e3], fun vs H' G' x r => ?_⟩
  obtain ⟨v, w, F', F2, rfl, h, h'⟩ := r.two
  split at e4
  · rename_i xs ys e5 e6
    cases e4
    obtain ⟨a, vs, rfl, h1, p1⟩ := h.fzl e5
    obtain ⟨b, ws, rfl, h2, p2⟩ := h'.fzl e6
    exact ⟨a, b, vs, ws, rfl, .inl ⟨x.gh.seq h1, x.gh.seq h2, q _ H' G' x (wk_zip h1 h2 p1 p2)⟩⟩
  · split at e4
    · rename_i xs ys e5 e6
      cases e4
      obtain ⟨a, vs, rfl, h1, p1⟩ := h.ptup e5
      obtain ⟨b, ws, rfl, h2, p2⟩ := h'.ptup e6
      exact ⟨a, b, vs, ws, rfl, .inr ⟨Same.seqT x.gh h1, Same.seqT x.gh h2, q _ H' G' x (wk_zipT h1 h2 p1 p2)⟩⟩
    · cases e4
/-- enumerate -/
def enumD (k : Nat) : List D → List D
  | [] => []
  | d :: r => .tuple [.int (k : Nat), d] :: enumD (k + 1) r
theorem enumD_length : ∀ (k : Nat) (xs : List D), (enumD k xs).length = xs.length
  | _, [] => rfl
  | k, _ :: r => by simp [enumD, enumD_length (k + 1) r]
theorem enumD_get : ∀ {k : Nat} {xs : List D} {i : Nat} {d : D}, (enumD k xs)[i]? = some d → ∃ a, xs[i]? = some a ∧ d = .tuple [.int ((k + i : Nat) : Int), a]
  | _, [], _, _, e => by simp [enumD] at e
  | k, a :: r, 0, d, e => by simp [enumD] at e; exact ⟨a, rfl, by simp [e.symm]⟩
  | k, a :: r, i + 1, d, e => by
    obtain ⟨x, h1, h2⟩ := enumD_get (k := k + 1) (xs := r) (i := i) (d := d) (by simpa [enumD] using e)
    exact ⟨x, by simpa using h1, by rw [h2]; simp; omega⟩
def iEn (me : EM) : En → Option (List D) := fun env => (me env).bind fun t => t.fzl?.map fun xs => enumD 0 xs
theorem wk_enum {K : PySem.W.Frag} {B G0 : Hp} {a : Addr} {vs : List V} {xs : List D} (h1 : SqL K B a vs) (r1 : Rps K G0 vs xs) : Wk2 K B G0 (Ite K a) (enumD 0 xs) where
  go := fun i H s hi => by
    rw [enumD_length] at hi
    have l1 := r1.length
    exact ⟨vs, vs[i], s.seq h1, by simp⟩
  stop := fun i H s hi => by
    rw [enumD_length] at hi
    have l1 := r1.length
    exact ⟨vs, s.seq h1, by omega⟩
  yld := fun i H x H' G d s s0 sg y e => by
    obtain ⟨T, u, rfl, nT, rfl, y1⟩ := y
    obtain ⟨d1, e1, rfl⟩ := enumD_get e
    obtain ⟨v1, g1, p1⟩ := r1.get e1
    rw [y1 vs (s.seq h1)] at g1
    cases g1
    have x2 := Ext.new (o := .tup [.int (i : Nat), u]) sg nT
    refine ⟨_, x2, .tup (.inl (.inl upd_same)) (.cons ?_ (.cons ((p1.mono s0).mono x2.gg) .nil))⟩
    rw [Nat.zero_add]
    exact .int _
theorem pim_enum {elts : List Expr} {kk : Nat} {tpos : Pos} (hg : Gl X "enumerate") (hm : X.mg "enumerate" = none) (he : PM X e me) (hs : starEach [e] X.env = [(false, eval e X.env)] := by rfl) :
    PIM X (.Tuple elts kk tpos) (.Call (.Name "enumerate" p) [e] [] pos) true (iEn me) := by
  refine PI_imp (pi_enum hg hm (pam_cons he pam_nil hs) hs) fun σ H R h => ?_
  obtain ⟨G, env, F, rel, ds, e1, q⟩ := h
  simp only [iEn, Option.bind_eq_some_iff, Option.map_eq_some_iff] at e1
  obtain ⟨t, e2, xs, e3, rfl⟩ := e1
  refine ⟨G, env, F, rel, [t], by simp [aCons, aNil, e2], fun vs H' G' x r => ?_⟩
  obtain ⟨v, F', rfl, h⟩ := r.one
  obtain ⟨a, vs, rfl, h1, p1⟩ := h.fzl e3
  exact ⟨a, vs, rfl, x.gh.seq h1, q _ H' G' x (wk_enum h1 p1)⟩
end

/-! ### comprehensions -/
def lcRun (g : D → En → Option En) (tt : En → Option Bool) (me : EM) (env : En) : List D → Option (List D)
  | [] => some []
  | d :: r => (g d env).bind fun e => (tt e).bind fun b => if b then (me e).bind fun t => t.pure?.bind fun y => (lcRun g tt me env r).map fun ys => y :: ys else lcRun g tt me env r
def mLc (mi : En → Option (List D)) (vs : List Nat) (g : D → En → Option En) (tt : En → Option Bool) (me : EM) : EM := fun env => (mi env).bind fun ds => (lcRun g tt me (wipeE env vs) ds).bind fun out => if out.length ≤ LIM then some (.p (.list out)) else none
def bYes : En → Option Bool := fun _ => some true
def tTsM := tTM
abbrev PTsM (X : Cx) (ifs : List Expr) (m : En → Option Bool) : Prop := PTs X ifs (tTM X.K m)
theorem PTs_imp {X : Cx} {e : List Expr} {t t' : TT} (h : PTs X e t) (i : ∀ σ H Q, t' σ H Q → t σ H Q) : PTs X e t' := ⟨fun pins s σ H Q I q => h.run pins s σ H Q I (i σ H Q q)⟩
theorem ptsm_nil {X : Cx} : PTsM X [] bYes := PTs_imp pts_nil fun σ H Q h => by
  obtain ⟨G, env, F, rel, b, e, q⟩ := h
  cases e
  exact q H G (Ext.refl rel.sm)
theorem ptsm_one {X : Cx} {c : Expr} {m : En → Option Bool} (h : PTM X c m) : PTsM X [c] m := pts_one h
/-- the reading of a comprehension whose element is pure -/
theorem lcM {K : PySem.W.Frag} {fz : Bool} {mi : En → Option (List D)} {js vs : List Nat} {g : D → En → Option En} {tt : En → Option Bool} {me : EM} (hj : ∀ j ∈ js, j ∈ vs) {σ : L2.St} {H : Hp} {Q : VK}
    (h : ∃ G env F, Rel K G H env σ F ∧ ∃ ds out, mi env = some ds ∧ lcRun g tt me (wipeE env vs) ds = some out ∧ out.length ≤ LIM ∧
      ∀ p vs' H' G', Ext G H G' H' → H p = none → G' p = none → H' p = some (.lst vs') → Rps K G' vs' out → Q (.ref p) H') :
    tLc (iM K fz mi) (gM K js g) (tTM K tt) (tM K me) vs σ H Q := by
  obtain ⟨G, env, F, rel, ds, out, e1, e2, hz, q⟩ := h
  refine ⟨G, env, F, rel, ds, e1, fun J H1 G1 x1 wk => fun D nD => ?_⟩
  refine ⟨fun i m H2 => m = ds.length - i ∧ i ≤ ds.length ∧ ∃ G2 acc o1 o2, Ext G1 H1 G2 H2 ∧ G2 D = none ∧ H2 D = some (.lst acc) ∧ Rps K G2 acc o1 ∧ lcRun g tt me (wipeE env vs) (ds.drop i) = some o2 ∧ out = o1 ++ o2, ?_, ?_⟩
  · refine ⟨ds.length, rfl, Nat.zero_le _, G1, [], [], out, Ext.fresh x1.gh nD, x1.gh.free nD, upd_same, .nil, by simpa using e2, rfl⟩
  · rintro i m H2 ⟨rfl, hi, G2, acc, o1, o2, x2, gD, hD, ra, e3, eo⟩
    have sB : Same (if fz then G1 else H1) H2 := by
      cases fz with
      | true => exact x2.gg.trans x2.gh
      | false => exact x2.hh
    by_cases hlt : i < ds.length
    · have ed : ds.drop i = ds[i] :: ds.drop (i + 1) := List.drop_eq_getElem_cons hlt
      rw [ed] at e3
      simp only [lcRun, Option.bind_eq_some_iff] at e3
      obtain ⟨env1, e4, b, e5, e6⟩ := e3
      refine .inr ⟨wk.go i H2 sB hlt, fun H' => (i + 1 ≤ ds.length ∧ ∃ G2 acc o1 o2, Ext G1 H1 G2 H' ∧ G2 D = none ∧ H' D = some (.lst acc) ∧ Rps K G2 acc o1 ∧ lcRun g tt me (wipeE env vs) (ds.drop (i + 1)) = some o2 ∧ out = o1 ++ o2), fun H' w => ⟨ds.length - (i + 1), by omega, rfl, w.1, w.2⟩, fun x H3 y => ?_⟩
      obtain ⟨G3, x3, rd⟩ := wk.yld i H2 x H3 G2 ds[i] sB x2.gg x2.gh y (List.getElem?_eq_getElem hlt)
      have gD3 : ∀ {Ga Ha Gb Hb : Hp}, Ext Ga Ha Gb Hb → Ga D = none → Ha D ≠ none → Gb D = none := fun {Ga Ha Gb Hb} x g h => by
        cases z : Gb D with
        | none => rfl
        | some o =>
          rcases x.fr D (by rw [z]; exact Option.some_ne_none o) with w | w
          · exact absurd g w
          · exact absurd w h
      have rel3 := (rel.ext x1).ext (x2.trans x3)
      obtain ⟨Fw, relw⟩ := rel3.wipe vs
      refine ⟨G3, wipeE env vs, Fw, ds[i], relw, rd, env1, e4, fun σ2 F2 rel4 _ ou => ⟨ou.wipe hj |>.trans ?_, ?_⟩⟩
      · have : Only [] (L2.wipe σ vs) (L2.wipe σ vs) := Only.refl _ _
        apply List.ext_getElem?
        intro k
        rw [wipe_get, wipe_get]
        by_cases hk : k ∈ vs
        · rw [if_pos hk, if_pos hk, wipe_length]
        · rw [if_neg hk, if_neg hk]
      · refine ⟨G3, env1, F2, rel4, b, e5, fun H4 G4 x4 => ?_⟩
        have hD3 : H3 D = some (.lst acc) := x3.hh _ _ hD
        have g3 : G3 D = none := gD3 x3 gD (by rw [hD]; exact Option.some_ne_none _)
        have g4 : G4 D = none := gD3 x4 g3 (by rw [hD3]; exact Option.some_ne_none _)
        have hD4 : H4 D = some (.lst acc) := x4.hh _ _ hD3
        cases b with
        | false =>
          rw [if_neg Bool.false_ne_true] at e6
          refine iteF ?_
          exact ⟨hlt, G4, acc, o1, o2, (x2.trans x3).trans x4, g4, hD4, (ra.mono x3.gg).mono x4.gg, e6, eo⟩
        | true =>
          rw [if_pos rfl] at e6
          simp only [Option.bind_eq_some_iff, Option.map_eq_some_iff] at e6
          obtain ⟨t, e7, yd, e8, ys, e9, rfl⟩ := e6
          refine iteT ?_
          refine ⟨G4, env1, F2, rel4.ext x4, t, e7, fun v H5 G5 F5 x5 r5 => ?_⟩
          have hD5 : H5 D = some (.lst acc) := x5.hh _ _ hD4
          have g5 : G5 D = none := gD3 x5 g4 (by rw [hD4]; exact Option.some_ne_none _)
          have x25 := ((x2.trans x3).trans x4).trans x5
          have ra5 : Rps K G5 acc o1 := ((ra.mono x3.gg).mono x4.gg).mono x5.gg
          refine ⟨acc, hD5, ?_, hlt, G5, acc ++ [v], o1 ++ [yd], ys, ⟨x25.gg, fun a o z => ?_, fun a o z => ?_, x25.fr⟩, g5, upd_same, ra5.append (.one (r5.of_pure? e8)), e9, by rw [eo, List.append_assoc]; rfl⟩
          · have l1 := ra5.length
            rw [eo] at hz
            simp only [List.length_append, List.length_cons] at hz
            have := LIM_line
            omega
          · have : a ≠ D := ne_of_none z nD
            rw [upd_ne this]
            exact x25.hh a o z
          · have : a ≠ D := ne_of_none z g5
            rw [upd_ne this]
            exact x25.gh a o z
    · have hi' : i = ds.length := by omega
      subst hi'
      rw [List.drop_length] at e3
      cases e3
      rw [List.append_nil] at eo
      subst eo
      exact .inl ⟨wk.stop _ H2 sB (Nat.le_refl _), q D acc H2 G2 (x1.trans x2) (x1.hh.free nD) gD hD ra⟩
section
variable {X : Cx}
theorem tLcM {K : PySem.W.Frag} {fz : Bool} {mi : En → Option (List D)} {js vs : List Nat} {g : D → En → Option En} {tt : En → Option Bool} {me : EM} (hj : ∀ j ∈ js, j ∈ vs) {σ : L2.St} {H : Hp} {Q : VK} (h : tM K (mLc mi vs g tt me) σ H Q) :
    tLc (iM K fz mi) (gM K js g) (tTM K tt) (tM K me) vs σ H Q := by
  obtain ⟨G, env, F, rel, t, e, q⟩ := h
  simp only [mLc, Option.bind_eq_some_iff] at e
  obtain ⟨ds, e1, out, e2, e3⟩ := e
  split at e3
  · rename_i hz
    cases e3
    refine lcM hj ⟨G, env, F, rel, ds, out, e1, e2, hz, fun p vs' H' G' x hp gp h1 h2 => ?_⟩
    refine q _ H' (upd G' p (.lst vs')) [] ⟨x.gg.trans (same_upd gp), x.hh, fun a o z => ?_, fun a z => ?_⟩ (.p (.lst upd_same (h2.mono (same_upd gp))))
    · by_cases hap : a = p
      · subst hap; rw [upd_same] at z; cases z; exact h1
      · rw [upd_ne hap] at z; exact x.gh a o z
    · by_cases hap : a = p
      · subst hap; exact .inr hp
      · rw [upd_ne hap] at z; exact x.fr a z
  · cases e3
theorem pm_lc {elt tg iter : Expr} {ifs : List Expr} {scope : Scope} {own : List (Str × Nat)} {pos : Pos} {fz : Bool} {mi : En → Option (List D)} {js : List Nat} {g : D → En → Option En} {tt : En → Option Bool} {me : EM} (hc : X.calm = true) (hN : X.N.Nodup) (hi : PIM X tg iter fz mi) (ok : BlkOk X.N X.env.scope scope own)
    (hg : ∀ (s : Shared) (H : Hp) (C : Addr) (cl : List (Str × Addr)) (fp : List Addr), GM (X.blk s H scope (compEnvC scope cl C X.env) fp) tg js g) (ht : ∀ (s : Shared) (H : Hp) (C : Addr) (cl : List (Str × Addr)) (fp : List Addr), PTsM (X.blk s H scope (compEnvC scope cl C X.env) fp) ifs tt)
    (he : ∀ (s : Shared) (H : Hp) (C : Addr) (cl : List (Str × Addr)) (fp : List Addr), PM (X.blk s H scope (compEnvC scope cl C X.env) fp) elt me) (hj : ∀ j ∈ js, j ∈ own.map (·.2) := by decide) (hs : ∀ x, foldedSetIterable iter X.env x = pure x := by intro _; rfl) :
    PM X (.ListComp elt [⟨tg, iter, ifs, 0⟩] scope pos) (mLc mi (own.map (·.2)) g tt me) :=
  PE_imp (pe_lc hc hN hi ok hg ht he hs) fun _ _ _ h => tLcM hj h
end
end M
/-! M6: statements. -/
namespace M
open PySem PySem.Spec PyProof.Rows L2

inductive Out where
  | nx (e : En) | rt (t : T) | bk (e : En) | ct (e : En)
abbrev SM := En → Option Out
/-- the slots stand, R is kept, what is frozen was so ahead (G0) or is new -/
def SR (K : PySem.W.Frag) (G0 R : Hp) (env : En) (σ : L2.St) (H : Hp) : Prop := ∃ G F, Rel K G H env σ F ∧ (∀ a ∈ F, R a = none) ∧ Ext G0 R G H
def RR (K : PySem.W.Frag) (G0 R : Hp) (t : T) (v : V) (H : Hp) : Prop := ∃ G F, Ext G0 R G H ∧ TR K G H t v F ∧ F.Nodup ∧ ∀ a ∈ F, G a = none ∧ R a = none
def Goes (K : PySem.W.Frag) (G0 R : Hp) (D : Ends) : Out → Prop
  | .nx e => ∀ σ H, SR K G0 R e σ H → D.nx σ H
  | .rt t => ∀ v H, RR K G0 R t v H → D.rt v H
  | .bk e => ∀ σ H, SR K G0 R e σ H → D.bk σ H
  | .ct e => ∀ σ H, SR K G0 R e σ H → D.ct σ H
def tS (K : PySem.W.Frag) (m : SM) : TS := fun D σ H => ∃ G0 R env, SR K G0 R env σ H ∧ ∃ o, m env = some o ∧ Goes K G0 R D o
abbrev PSM (X : Cx) (st : Stmt) (m : SM) : Prop := PS X st (tS X.K m)
abbrev PSsM (X : Cx) (st : List Stmt) (m : SM) : Prop := PSs X st (tS X.K m)
theorem PS_imp {X : Cx} {e : Stmt} {t t' : TS} (h : PS X e t) (i : ∀ D σ H, t' D σ H → t D σ H) : PS X e t' := ⟨fun pins s σ H D I q => h.run pins s σ H D I (i D σ H q)⟩
theorem PSs_imp {X : Cx} {e : List Stmt} {t t' : TS} (h : PSs X e t) (i : ∀ D σ H, t' D σ H → t D σ H) : PSs X e t' := ⟨fun pins s σ H D I q => h.run pins s σ H D I (i D σ H q)⟩

section
variable {K : PySem.W.Frag} {G0 R G1 G H H' : Hp}
/-- R kept, through a first state -/
theorem Ext.step (a : Ext G0 R G H) {G' : Hp} (b : Ext G H G' H') : Ext G0 R G' H' := a.trans b
theorem Ext.over {H1 : Hp} (a : Ext G0 R G1 H1) (b : Ext G1 R G H) : Ext G0 R G H := ⟨a.gg.trans b.gg, b.hh, b.gh, fun x h => by
  rcases b.fr x h with z | z
  · exact a.fr x z
  · exact .inr z⟩
theorem SR.over {H1 : Hp} {env : En} {σ : L2.St} (a : Ext G0 R G1 H1) (s : SR K G1 R env σ H) : SR K G0 R env σ H := by
  obtain ⟨G, F, h1, h2, h3⟩ := s
  exact ⟨G, F, h1, h2, a.over h3⟩
theorem RR.over {H1 : Hp} {t : T} {v : V} (a : Ext G0 R G1 H1) (s : RR K G1 R t v H) : RR K G0 R t v H := by
  obtain ⟨G, F, h1, h2, h3, h4⟩ := s
  exact ⟨G, F, a.over h1, h2, h3, h4⟩
theorem Goes.over {H1 : Hp} {D : Ends} {o : Out} (a : Ext G0 R G1 H1) (g : Goes K G0 R D o) : Goes K G1 R D o := by
  cases o with
  | nx e => exact fun σ H s => g σ H (s.over a)
  | rt t => exact fun v H s => g v H (s.over a)
  | bk e => exact fun σ H s => g σ H (s.over a)
  | ct e => exact fun σ H s => g σ H (s.over a)
end

/-! ### blocks -/
def sNil : SM := fun env => some (.nx env)
def sCons (a b : SM) : SM := fun env => (a env).bind fun o => match o with
  | .nx e => b e
  | o => some o
section
variable {X : Cx} {st : Stmt} {rest : List Stmt} {ma mb : SM} {pos : Pos}
theorem psm_nil : PSsM X [] sNil := PSs_imp pss_nil fun D σ H h => by
  obtain ⟨G0, R, env, s, o, e, g⟩ := h
  cases e
  exact g σ H s
theorem psm_cons (ha : PSM X st ma) (hb : PSsM X rest mb) : PSsM X (st :: rest) (sCons ma mb) := by
  refine PSs_imp (pss_cons ha hb) fun D σ H h => ?_
  obtain ⟨G0, R, env, s, o, e, g⟩ := h
  simp only [sCons, Option.bind_eq_some_iff] at e
  obtain ⟨o1, e1, e2⟩ := e
  refine ⟨G0, R, env, s, o1, e1, ?_⟩
  cases o1 with
  | nx e => exact fun σ' H' s' => ⟨G0, R, e, s', o, e2, g⟩
  | rt t => cases e2; exact g
  | bk t => cases e2; exact g
  | ct t => cases e2; exact g
theorem psm_one (ha : PSM X st ma) : PSsM X [st] ma := by
  refine PSs_imp (pss_one ha) fun D σ H h => ?_
  exact h
/-! ### small statements -/
def sPass : SM := fun env => some (.nx env)
def sBreak : SM := fun env => some (.bk env)
def sContinue : SM := fun env => some (.ct env)
def sNever : SM := fun _ => none
theorem psm_pass : PSM X (.Pass pos) sPass := PS_imp ps_pass fun D σ H h => by
  obtain ⟨G0, R, env, s, o, e, g⟩ := h
  cases e
  exact g σ H s
theorem psm_break : PSM X (.Break pos) sBreak := PS_imp ps_break fun D σ H h => by
  obtain ⟨G0, R, env, s, o, e, g⟩ := h
  cases e
  exact g σ H s
theorem psm_continue : PSM X (.Continue pos) sContinue := PS_imp ps_continue fun D σ H h => by
  obtain ⟨G0, R, env, s, o, e, g⟩ := h
  cases e
  exact g σ H s
theorem psm_never : PSM X st sNever := PS_imp ps_never fun D σ H h => by
  obtain ⟨G0, R, env, s, o, e, g⟩ := h
  cases e
variable {e : Expr} {me : EM}
def sExpr (m : EM) : SM := fun env => (m env).map fun _ => .nx env
theorem psm_expr (he : PM X e me) (hs : swapsWith e none pos.line X.env = pure false := by rfl) : PSM X (.Expr e pos) (sExpr me) := by
  refine PS_imp (ps_expr he hs) fun D σ H h => ?_
  obtain ⟨G0, R, env, ⟨G, F, rel, hR, x0⟩, o, e, g⟩ := h
  simp only [sExpr, Option.map_eq_some_iff] at e
  obtain ⟨t, e1, rfl⟩ := e
  exact ⟨G, env, F, rel, t, e1, fun v H' G' F' x r => g σ H' ⟨G', F, rel.ext x, hR, x0.trans x⟩⟩
def sRet (m : EM) : SM := fun env => (m env).bind fun t => t.pure?.map fun d => .rt (.p d)
theorem psm_ret (he : PM X e me) : PSM X (.Return (some e) pos) (sRet me) := by
  refine PS_imp (ps_ret he) fun D σ H h => ?_
  obtain ⟨G0, R, env, ⟨G, F, rel, hR, x0⟩, o, e, g⟩ := h
  simp only [sRet, Option.bind_eq_some_iff, Option.map_eq_some_iff] at e
  obtain ⟨t, e1, d, e2, rfl⟩ := e
  exact ⟨G, env, F, rel, t, e1, fun v H' G' F' x r => g v H' ⟨G', [], x0.trans x, .p (r.of_pure? e2), .nil, fun _ z => nomatch z⟩⟩
def sSet (i : Nat) (m : EM) : SM := fun env => (m env).bind fun t => t.pure?.map fun d => .nx (env.set i (some (.p d)))
theorem SR.putp {K : PySem.W.Frag} {G0 R G H : Hp} {env : En} {σ : L2.St} {F : List Addr} (rel : Rel K G H env σ F) (hR : ∀ a ∈ F, R a = none) (x0 : Ext G0 R G H) (i : Nat) {v : V} {d : D} (h : Rp K G v d) : SR K G0 R (env.set i (some (.p d))) (σ.set i (some v)) H := by
  obtain ⟨F', r', s'⟩ := rel.putp i h
  exact ⟨G, F', r', fun a ha => hR a (s' a ha), x0⟩
theorem tSetM {K : PySem.W.Frag} {i : Nat} {m : EM} {D : Ends} {σ : L2.St} {H : Hp} (h : tS K (sSet i m) D σ H) : tM K m σ H fun x H1 => gName i x σ H1 D.nx := by
  obtain ⟨G0, R, env, ⟨G, F, rel, hR, x0⟩, o, e, g⟩ := h
  simp only [sSet, Option.bind_eq_some_iff, Option.map_eq_some_iff] at e
  obtain ⟨t, e1, d, e2, rfl⟩ := e
  exact ⟨G, env, F, rel, t, e1, fun v H' G' F' x r => g _ H' (SR.putp (rel.ext x) hR (x0.trans x) i (r.of_pure? e2))⟩
theorem psm_set {i : Nat} {x : Str} {pos' : Pos} (hN : X.N.Nodup) (he : PM X e me) (hi : X.N[i]? = some x := by rfl) (hx : Loc X.env.scope x := by first | exact Or.inl rfl | exact Or.inr rfl) (hs : swapsWith e (some (.Name x pos')) pos.line X.env = pure false := by rfl) (hf : X.fn x = true ∨ X.env.scope.names.lookup x = some .local := by first | exact .inl rfl | exact .inr rfl | assumption) :
    PSM X (.Assign [.Name x pos'] e pos) (sSet i me) := PS_imp (ps_set hN hi hx he hs hf) fun D σ H h => tSetM h
/-- y = [..] -/
theorem psm_setLc {i : Nat} {y : Str} {py spos : Pos} {elt tg iter : Expr} {ifs : List Expr} {scope : Scope} {own : List (Str × Nat)} {fz : Bool} {mi : En → Option (List D)} {js : List Nat} {g : D → En → Option En} {tt : En → Option Bool} {me : EM} (hc : X.calm = true) (hN : X.N.Nodup)
    (hi : PIM X tg iter fz mi) (ok : BlkOk X.N X.env.scope scope own)
    (hg : ∀ (s : Shared) (H : Hp) (C : Addr) (cl : List (Str × Addr)) (fp : List Addr), GM (X.blk s H scope (compEnvC scope cl C X.env) fp) tg js g) (ht : ∀ (s : Shared) (H : Hp) (C : Addr) (cl : List (Str × Addr)) (fp : List Addr), PTsM (X.blk s H scope (compEnvC scope cl C X.env) fp) ifs tt)
    (he : ∀ (s : Shared) (H : Hp) (C : Addr) (cl : List (Str × Addr)) (fp : List Addr), PM (X.blk s H scope (compEnvC scope cl C X.env) fp) elt me)
    (hsw : swapsWith (.ListComp elt [⟨tg, iter, ifs, 0⟩] scope pos) (some (.Name y py)) spos.line X.env = pure true) (hy : X.N[i]? = some y := by rfl) (hyl : X.env.scope.names.lookup y = some .local := by rfl)
    (hj : ∀ j ∈ js, j ∈ own.map (·.2) := by decide) (hs : ∀ x, foldedSetIterable iter X.env x = pure x := by intro _; rfl) :
    PSM X (.Assign [.Name y py] (.ListComp elt [⟨tg, iter, ifs, 0⟩] scope pos) spos) (sSet i (mLc mi (own.map (·.2)) g tt me)) :=
  PS_imp (ps_setLc hc hN hy hyl hsw hi ok hg ht he hs) fun D σ H h => tLcM hj (tSetM h)
/-- a, b = e -/
def sAsg (g : D → En → Option En) (m : EM) : SM := fun env => (m env).bind fun t => t.pure?.bind fun d => (g d env).map .nx
theorem psm_asg {tg : Expr} {js : List Nat} {g : D → En → Option En} (he : PM X e me) (hg : GM X tg js g) (hs : swapsWithSole [tg] e pos.line X.env = pure false := by rfl) (hw : swappedStores [tg] e X.env = pure none := by rfl)
    (h1 : (assignEach [tg] X.env).map (·.2) = [assign tg X.env] := by rfl) : PSM X (.Assign [tg] e pos) (sAsg g me) := by
  refine PS_imp (ps_asg he hg hs hw h1) fun D σ H h => ?_
  obtain ⟨G0, R, env, ⟨G, F, rel, hR, x0⟩, o, e, gg⟩ := h
  simp only [sAsg, Option.bind_eq_some_iff, Option.map_eq_some_iff] at e
  obtain ⟨t, e1, d, e2, env', e3, rfl⟩ := e
  refine ⟨G, env, F, rel, t, e1, fun v H' G' F' x r => ?_⟩
  exact ⟨G', env, F, d, rel.ext x, r.of_pure? e2, env', e3, fun σ' F2 rel2 s2 _ => gg σ' H' ⟨G', F2, rel2, fun a ha => hR a (s2 a ha), x0.trans x⟩⟩
/-- a, b = x, y (plain locals) -/
def sPar (i j : Nat) (ms : En → Option (List T)) : SM := fun env => (ms env).bind fun ts => (pures ts).bind fun ds => match ds with
  | [d, d'] => some (.nx ((env.set i (some (.p d))).set j (some (.p d'))))
  | _ => none
theorem psm_par {i j : Nat} {x y : Str} {a b : Expr} {ms : En → Option (List T)} {px py pt : Pos} {kt k2 pt2} (hc : X.calm = true) (hN : X.N.Nodup) (hij : i ≠ j) (ha : PAM X [a, b] ms)
    (hw : swappedStores [.Tuple [.Name x px, .Name y py] kt pt] (.Tuple [a, b] k2 pt2) X.env = pure (some [x, y])) (hi : X.N[i]? = some x := by rfl) (hj : X.N[j]? = some y := by rfl)
    (hx : X.env.scope.names.lookup x = some .local := by rfl) (hy : X.env.scope.names.lookup y = some .local := by rfl)
    (hs : swapsWithSole [.Tuple [.Name x px, .Name y py] kt pt] (.Tuple [a, b] k2 pt2) pos.line X.env = pure false := by rfl) :
    PSM X (.Assign [.Tuple [.Name x px, .Name y py] kt pt] (.Tuple [a, b] k2 pt2) pos) (sPar i j ms) := by
  refine PS_imp (ps_par hc hN hi hj hij hx hy ha hw hs) fun D σ H h => ?_
  obtain ⟨G0, R, env, ⟨G, F, rel, hR, x0⟩, o, e, g⟩ := h
  simp only [sPar, Option.bind_eq_some_iff] at e
  obtain ⟨ts, e1, ds, e2, e3⟩ := e
  split at e3
  · rename_i d d'
    cases e3
    refine ⟨G, env, F, rel, ts, e1, fun vs H' G' x r => ?_⟩
    have rp := r.pures e2
    cases rp with
    | cons p1 rp =>
      cases rp with
      | cons p2 rp =>
        cases rp
        refine ⟨_, _, rfl, g _ H' ?_⟩
        obtain ⟨F1, r1, s1⟩ := (rel.ext x).putp i p1
        exact SR.putp r1 (fun a ha => hR a (s1 a ha)) (x0.trans x) j p2
  · cases e3
/-! ### if, for, while -/
def sIf (c : En → Option Bool) (a b : SM) : SM := fun env => (c env).bind fun k => if k then a env else b env
theorem psm_if {c : Expr} {a b : List Stmt} {mc : En → Option Bool} (hc : PTM X c mc) (ha : PSsM X a ma) (hb : PSsM X b mb) : PSM X (.If c a b pos) (sIf mc ma mb) := by
  refine PS_imp (ps_if hc ha hb) fun D σ H h => ?_
  obtain ⟨G0, R, env, ⟨G, F, rel, hR, x0⟩, o, e, g⟩ := h
  simp only [sIf, Option.bind_eq_some_iff] at e
  obtain ⟨k, e1, e2⟩ := e
  refine ⟨G, env, F, rel, k, e1, fun H' G' x => ?_⟩
  cases k with
  | true =>
    rw [if_pos rfl] at e2
    exact iteT ⟨G0, R, env, ⟨G', F, rel.ext x, hR, x0.trans x⟩, o, e2, g⟩
  | false =>
    rw [if_neg Bool.false_ne_true] at e2
    exact iteF ⟨G0, R, env, ⟨G', F, rel.ext x, hR, x0.trans x⟩, o, e2, g⟩
def forRun (g : D → En → Option En) (mb : SM) : List D → En → Option Out
  | [], env => some (.nx env)
  | d :: r, env => (g d env).bind fun e1 => (mb e1).bind fun o => match o with
    | .nx e => forRun g mb r e
    | .ct e => forRun g mb r e
    | .bk e => some (.nx e)
    | .rt t => some (.rt t)
def sFor (mi : En → Option (List D)) (g : D → En → Option En) (mb : SM) : SM := fun env => (mi env).bind fun ds => forRun g mb ds env
theorem psm_for {tg iter : Expr} {body : List Stmt} {mi : En → Option (List D)} {js : List Nat} {g : D → En → Option En} (hp : PassesOwn (model X.prog X.w) X.A X.env X.xe) (hc : X.calm = true) (hi : PIM X tg iter true mi) (hg : GM X tg js g) (hb : PSsM X body mb)
    (hs : ∀ x, foldedSetIterable iter X.env x = pure x := by intro _; rfl) : PSM X (.For tg iter body [] pos) (sFor mi g mb) := by
  refine PS_imp (ps_for hp hc hi hg hb hs) fun D σ H h => ?_
  obtain ⟨G0, R, env, ⟨G, F, rel, hR, x0⟩, o, e, gg⟩ := h
  simp only [sFor, Option.bind_eq_some_iff] at e
  obtain ⟨ds, e1, e2⟩ := e
  refine ⟨G, env, F, rel, ds, e1, fun J H1 G1 x1 wk => ?_⟩
  have x01 := x0.trans x1
  refine ⟨fun i m σ H => m = ds.length - i ∧ i ≤ ds.length ∧ ∃ envi, SR X.K G1 R envi σ H ∧ forRun g mb (ds.drop i) envi = some o, ⟨ds.length, rfl, Nat.zero_le _, env, ⟨G1, F, rel.ext x1, hR, ⟨Same.refl _, x01.hh, x1.gh, fun a h => .inl h⟩⟩, e2⟩, ?_⟩
  rintro i m σ H ⟨rfl, hi', envi, ⟨G2, F2, rel2, hR2, x2⟩, e3⟩
  have sB : Same G1 H := x2.gg.trans x2.gh
  by_cases hlt : i < ds.length
  · have ed : ds.drop i = ds[i] :: ds.drop (i + 1) := List.drop_eq_getElem_cons hlt
    rw [ed] at e3
    simp only [forRun, Option.bind_eq_some_iff] at e3
    obtain ⟨env1, e4, o1, e5, e6⟩ := e3
    refine .inr ⟨wk.go i H sB hlt, fun σ' H' => (∃ envi, SR X.K G1 R envi σ' H' ∧ forRun g mb (ds.drop (i + 1)) envi = some o), fun σ' H' w => ⟨ds.length - (i + 1), by omega, rfl, hlt, w⟩, fun x H3 y => ?_⟩
    obtain ⟨G3, x3, rd⟩ := wk.yld i H x H3 G2 ds[i] sB x2.gg x2.gh y (List.getElem?_eq_getElem hlt)
    refine ⟨G3, envi, F2, ds[i], rel2.ext x3, rd, env1, e4, fun σ4 F4 rel4 s4 _ => ?_⟩
    refine ⟨G1, R, env1, ⟨G3, F4, rel4, fun a ha => hR2 a (s4 a ha), x2.trans x3⟩, o1, e5, ?_⟩
    cases o1 with
    | nx e => exact fun σ' H' s' => ⟨e, s', e6⟩
    | ct e => exact fun σ' H' s' => ⟨e, s', e6⟩
    | bk e =>
      cases e6
      exact fun σ' H' s' => gg σ' H' (s'.over x01)
    | rt t =>
      cases e6
      exact fun v H' s' => gg v H' (s'.over x01)
  · have hi2 : i = ds.length := by omega
    subst hi2
    rw [List.drop_length] at e3
    cases e3
    exact .inl ⟨wk.stop _ H sB (Nat.le_refl _), gg σ H (SR.over x01 ⟨G2, F2, rel2, hR2, x2⟩)⟩
def whileRun (c : En → Option Bool) (mb : SM) : Nat → En → Option Out
  | 0, _ => none
  | n + 1, env => (c env).bind fun k => if k then (mb env).bind fun o => (match o with
    | .nx e => whileRun c mb n e
    | .ct e => whileRun c mb n e
    | .bk e => some (.nx e)
    | .rt t => some (.rt t)) else some (.nx env)
def sWhile (fuel : Nat) (c : En → Option Bool) (mb : SM) : SM := fun env => whileRun c mb fuel env
theorem psm_while {fuel : Nat} {c : Expr} {body : List Stmt} {mc : En → Option Bool} (hp : PassesOwn (model X.prog X.w) X.A X.env X.xe) (hc : PTM X c mc) (hb : PSsM X body mb) : PSM X (.While c body [] pos) (sWhile fuel mc mb) := by
  refine PS_imp (ps_while hp hc hb) fun D σ H h => ?_
  obtain ⟨G0, R, env, s, o, e, gg⟩ := h
  refine ⟨fun m σ H => ∃ envi, SR X.K G0 R envi σ H ∧ whileRun mc mb m envi = some o, ⟨fuel, env, s, e⟩, ?_⟩
  rintro m σ H ⟨envi, ⟨G, F, rel, hR, x0⟩, e1⟩
  cases m with
  | zero => cases e1
  | succ m =>
    simp only [whileRun, Option.bind_eq_some_iff] at e1
    obtain ⟨k, e2, e3⟩ := e1
    refine ⟨G, envi, F, rel, k, e2, fun H' G' x => ?_⟩
    cases k with
    | false =>
      rw [if_neg Bool.false_ne_true] at e3
      cases e3
      exact iteF (gg σ H' ⟨G', F, rel.ext x, hR, x0.trans x⟩)
    | true =>
      rw [if_pos rfl] at e3
      simp only [Option.bind_eq_some_iff] at e3
      obtain ⟨o1, e4, e5⟩ := e3
      refine iteT ⟨fun σ' H' => ∃ envi, SR X.K G0 R envi σ' H' ∧ whileRun mc mb m envi = some o, fun σ' H' w => ⟨m, Nat.lt_succ_self m, w⟩, ?_⟩
      refine ⟨G0, R, envi, ⟨G', F, rel.ext x, hR, x0.trans x⟩, o1, e4, ?_⟩
      cases o1 with
      | nx e => exact fun σ' H' s' => ⟨e, s', e5⟩
      | ct e => exact fun σ' H' s' => ⟨e, s', e5⟩
      | bk e => cases e5; exact fun σ' H' s' => gg σ' H' s'
      | rt t => cases e5; exact fun v H' s' => gg v H' s'
/-! ### a slot is frozen (no deed of the program's) -/
def sFrz (i : Nat) (m : SM) : SM := fun env => match env[i]? with
  | some (some t) => t.snap.bind fun d => m (env.set i (some (.p d)))
  | _ => m env
theorem psm_frz {sts : List Stmt} (i : Nat) (h : PSsM X sts ma) : PSsM X sts (sFrz i ma) := by
  refine PSs_imp h fun D σ H h => ?_
  obtain ⟨G0, R, env, ⟨G, F, rel, hR, x0⟩, o, e, gg⟩ := h
  unfold sFrz at e
  split at e
  · rename_i t et
    rw [Option.bind_eq_some_iff] at e
    obtain ⟨d, e1, e2⟩ := e
    obtain ⟨v, F1, Fa, Fb, h1, h2, h3, _, h5, _⟩ := rel.es.split et
    subst h3
    have m1 : ∀ a ∈ F1, a ∈ Fa ++ (F1 ++ Fb) := fun a ha => List.mem_append_right _ (List.mem_append_left _ ha)
    let G' : Hp := fun a => if a ∈ F1 then H a else G a
    have g1 : Same G G' := fun a u z => by
      show (if a ∈ F1 then H a else G a) = some u
      by_cases ha : a ∈ F1
      · rw [(rel.fr a (m1 a ha)).1] at z; cases z
      · rw [if_neg ha]; exact z
    have g2 : Same G' H := fun a u z => by
      have z' : (if a ∈ F1 then H a else G a) = some u := z
      by_cases ha : a ∈ F1
      · rw [if_pos ha] at z'; exact z'
      · rw [if_neg ha] at z'; exact rel.sm a u z'
    have rd : Rp X.K G' v d := h2.data g1 (fun a ha u z => by
      show (if a ∈ F1 then H a else G a) = some u
      rw [if_pos ha]; exact z) e1
    have nd := rel.nd
    rw [List.nodup_append] at nd
    obtain ⟨n1, n2, n3⟩ := nd
    rw [List.nodup_append] at n2
    obtain ⟨n4, n5, n6⟩ := n2
    have dj : ∀ a ∈ Fa ++ Fb, a ∉ F1 := fun a ha z => by
      rcases List.mem_append.mp ha with w | w
      · exact n3 a w a (List.mem_append_left _ z) rfl
      · exact n6 a z a w rfl
    have mf : ∀ a ∈ Fa ++ Fb, a ∈ Fa ++ (F1 ++ Fb) := fun a ha => by
      rcases List.mem_append.mp ha with w | w
      · exact List.mem_append_left _ w
      · exact List.mem_append_right _ (List.mem_append_right _ w)
    have es := h5 G' H (.p d) [] g1 (Keep.of (Same.refl H)) (.p rd)
    rw [List.nil_append] at es
    refine ⟨G0, R, _, ⟨G', Fa ++ Fb, ⟨es, ?_, fun a ha => ?_, g2⟩, fun a ha => hR a (mf a ha), ⟨x0.gg.trans g1, x0.hh, g2, fun a z => ?_⟩⟩, o, e2, gg⟩
    · exact List.nodup_append.mpr ⟨n1, n5, fun a ha b hb => n3 a ha b (List.mem_append_right _ hb)⟩
    · obtain ⟨z1, z2⟩ := rel.fr a (mf a ha)
      refine ⟨?_, z2⟩
      show (if a ∈ F1 then H a else G a) = none
      rw [if_neg (dj a ha)]
      exact z1
    · have z' : (if a ∈ F1 then H a else G a) ≠ none := z
      by_cases ha : a ∈ F1
      · exact .inr (hR a (m1 a ha))
      · rw [if_neg ha] at z'; exact x0.fr a z'
  · exact ⟨G0, R, env, ⟨G, F, rel, hR, x0⟩, o, e, gg⟩
end
end M
/-! M7: owned trees: made, changed along a path. -/
namespace M
open PySem PySem.Spec PyProof.Rows L2

inductive Stp where
  | ix (k : Nat) | fd (f : Str)
def T.at : List Stp → T → Option T
  | [], t => some t.strip
  | .ix k :: π, t => match t.strip with
    | .ml ts => (ts[k]?).bind fun u => T.at π u
    | .tp ts => (ts[k]?).bind fun u => T.at π u
    | _ => none
  | .fd f :: π, t => match t.strip with
    | .ob _ fs => (fs.lookup f).bind fun u => T.at π u
    | _ => none
def setF (f : Str) (t : T) : List (Str × T) → List (Str × T)
  | [] => []
  | (g, u) :: r => if f == g then (g, t) :: r else (g, u) :: setF f t r
def T.put : List Stp → T → T → Option T
  | [], t, u => some (t.wrap u)
  | .ix k :: π, t, u => match t.strip with
    | .ml ts => (ts[k]?).bind fun c => (T.put π c u).map fun c' => t.wrap (.ml (ts.set k c'))
    | .tp ts => (ts[k]?).bind fun c => (T.put π c u).map fun c' => t.wrap (.tp (ts.set k c'))
    | _ => none
  | .fd f :: π, t, u => match t.strip with
    | .ob C fs => (fs.lookup f).bind fun c => (T.put π c u).map fun c' => t.wrap (.ob C (setF f c' fs))
    | _ => none
inductive VAt (H : Hp) : V → List Stp → V → Prop
  | nil (v : V) : VAt H v [] v
  | lst {a : Addr} {vs : List V} {k : Nat} {w u : V} {π : List Stp} : H a = some (.lst vs) → vs[k]? = some w → VAt H w π u → VAt H (.ref a) (.ix k :: π) u
  | tup {a : Addr} {vs : List V} {k : Nat} {w u : V} {π : List Stp} : H a = some (.tup vs) → vs[k]? = some w → VAt H w π u → VAt H (.ref a) (.ix k :: π) u
  | ob {a C dx : Addr} {fs : List (Str × V)} {f : Str} {w u : V} {π : List Stp} : H a = some (.ins C dx fs) → fs.lookup f = some w → VAt H w π u → VAt H (.ref a) (.fd f :: π) u
theorem VAt.mono {H H' : Hp} (s : Same H H') : ∀ {v : V} {π : List Stp} {u : V}, VAt H v π u → VAt H' v π u
  | _, _, _, .nil v => .nil v
  | _, _, _, .lst h e r => .lst (s _ _ h) e (r.mono s)
  | _, _, _, .tup h e r => .tup (s _ _ h) e (r.mono s)
  | _, _, _, .ob h e r => .ob (s _ _ h) e (r.mono s)
theorem VAt.det {H : Hp} : ∀ {v : V} {π : List Stp} {u w : V}, VAt H v π u → VAt H v π w → u = w
  | _, _, _, _, .nil _, .nil _ => rfl
  | _, _, _, _, .lst h e r, .lst h' e' r' => by rw [h] at h'; cases h'; rw [e] at e'; cases e'; exact r.det r'
  | _, _, _, _, .lst h e r, .tup h' e' r' => by rw [h] at h'; cases h'
  | _, _, _, _, .tup h e r, .lst h' e' r' => by rw [h] at h'; cases h'
  | _, _, _, _, .tup h e r, .tup h' e' r' => by rw [h] at h'; cases h'; rw [e] at e'; cases e'; exact r.det r'
  | _, _, _, _, .ob h e r, .ob h' e' r' => by rw [h] at h'; cases h'; rw [e] at e'; cases e'; exact r.det r'
theorem VAt.snocL {H : Hp} : ∀ {v : V} {π : List Stp} {a : Addr} {vs : List V} {k : Nat} {w : V}, VAt H v π (.ref a) → H a = some (.lst vs) → vs[k]? = some w → VAt H v (π ++ [.ix k]) w
  | _, _, _, _, _, _, .nil _, h, e => .lst h e (.nil _)
  | _, _, _, _, _, _, .lst h1 e1 r, h, e => .lst h1 e1 (r.snocL h e)
  | _, _, _, _, _, _, .tup h1 e1 r, h, e => .tup h1 e1 (r.snocL h e)
  | _, _, _, _, _, _, .ob h1 e1 r, h, e => .ob h1 e1 (r.snocL h e)
theorem VAt.snocT {H : Hp} : ∀ {v : V} {π : List Stp} {a : Addr} {vs : List V} {k : Nat} {w : V}, VAt H v π (.ref a) → H a = some (.tup vs) → vs[k]? = some w → VAt H v (π ++ [.ix k]) w
  | _, _, _, _, _, _, .nil _, h, e => .tup h e (.nil _)
  | _, _, _, _, _, _, .lst h1 e1 r, h, e => .lst h1 e1 (r.snocT h e)
  | _, _, _, _, _, _, .tup h1 e1 r, h, e => .tup h1 e1 (r.snocT h e)
  | _, _, _, _, _, _, .ob h1 e1 r, h, e => .ob h1 e1 (r.snocT h e)
theorem VAt.snocF {H : Hp} : ∀ {v : V} {π : List Stp} {a C dx : Addr} {fs : List (Str × V)} {f : Str} {w : V}, VAt H v π (.ref a) → H a = some (.ins C dx fs) → fs.lookup f = some w → VAt H v (π ++ [.fd f]) w
  | _, _, _, _, _, _, _, _, .nil _, h, e => .ob h e (.nil _)
  | _, _, _, _, _, _, _, _, .lst h1 e1 r, h, e => .lst h1 e1 (r.snocF h e)
  | _, _, _, _, _, _, _, _, .tup h1 e1 r, h, e => .tup h1 e1 (r.snocF h e)
  | _, _, _, _, _, _, _, _, .ob h1 e1 r, h, e => .ob h1 e1 (r.snocF h e)

section
variable {K : PySem.W.Frag} {G H : Hp}
theorem TRs.split : ∀ {ts : List T} {vs : List V} {F : List Addr} {k : Nat} {t : T}, TRs K G H ts vs F → ts[k]? = some t →
    ∃ v F1 Fa Fb, vs[k]? = some v ∧ TR K G H t v F1 ∧ F = Fa ++ (F1 ++ Fb) ∧
      ∀ G' H' t' F1', Same G G' → Keep (Fa ++ Fb) H H' → TR K G' H' t' v F1' → TRs K G' H' (ts.set k t') vs (Fa ++ (F1' ++ Fb))
  | _, _, _, 0, t, .cons (F := F1) (F' := F2) h r, e => by
    simp only [List.getElem?_cons_zero, Option.some.injEq] at e
    subst e
    refine ⟨_, F1, [], F2, rfl, h, rfl, fun G' H' t' F1' s k q => ?_⟩
    rw [List.nil_append]
    exact .cons q (r.keep s k)
  | _, _, _, k + 1, t, .cons (F := F0) h r, e => by
    obtain ⟨v, F1, Fa, Fb, h1, h2, h3, h4⟩ := TRs.split (k := k) (t := t) r (by simpa using e)
    refine ⟨v, F1, F0 ++ Fa, Fb, by simpa using h1, h2, by rw [h3, List.append_assoc], fun G' H' t' F1' s k q => ?_⟩
    rw [List.append_assoc]
    refine .cons (h.keep s (k.sub fun _ q => List.mem_append_left _ (List.mem_append_left _ q))) (h4 G' H' t' F1' s (k.sub fun _ q => ?_) q)
    rw [List.append_assoc]
    exact List.mem_append_right _ q
theorem TRf.split : ∀ {ts : List (Str × T)} {vs : List (Str × V)} {F : List Addr} {f : Str} {t : T}, TRf K G H ts vs F → ts.lookup f = some t →
    ∃ v F1 Fa Fb, vs.lookup f = some v ∧ TR K G H t v F1 ∧ F = Fa ++ (F1 ++ Fb) ∧
      ∀ G' H' t' F1', Same G G' → Keep (Fa ++ Fb) H H' → TR K G' H' t' v F1' → TRf K G' H' (setF f t' ts) vs (Fa ++ (F1' ++ Fb))
  | _, _, _, f, t, .nil, e => by simp at e
  | _, _, _, f, t, .cons (x := x) (F := F0) (F' := F2) h r, e => by
    rw [List.lookup_cons] at e
    by_cases hx : (f == x) = true
    · rw [hx] at e
      cases e
      refine ⟨_, F0, [], F2, by rw [List.lookup_cons, hx], h, rfl, fun G' H' t' F1' s k q => ?_⟩
      rw [List.nil_append]
      unfold setF
      rw [if_pos hx]
      exact .cons q (r.keep s k)
    · have hx' : (f == x) = false := by simpa using hx
      rw [hx'] at e
      obtain ⟨v, F1, Fa, Fb, h1, h2, h3, h4⟩ := TRf.split (f := f) (t := t) r e
      refine ⟨v, F1, F0 ++ Fa, Fb, by rw [List.lookup_cons, hx']; exact h1, h2, by rw [h3, List.append_assoc], fun G' H' t' F1' s k q => ?_⟩
      rw [List.append_assoc]
      unfold setF
      rw [if_neg hx]
      refine .cons (h.keep s (k.sub fun _ q => List.mem_append_left _ (List.mem_append_left _ q))) (h4 G' H' t' F1' s (k.sub fun _ q => ?_) q)
      rw [List.append_assoc]
      exact List.mem_append_right _ q
theorem TR.at : ∀ {π : List Stp} {t u : T} {v0 : V} {F : List Addr}, TR K G H t v0 F → T.at π t = some u →
    ∃ v F1 Fa Fb, VAt H v0 π v ∧ TR K G H u v F1 ∧ F = Fa ++ (F1 ++ Fb) ∧
      ∀ G' H' u' F1', Same G G' → Keep (Fa ++ Fb) H H' → TR K G' H' u' v F1' → ∃ t', T.put π t u' = some t' ∧ TR K G' H' t' v0 (Fa ++ (F1' ++ Fb))
  | [], t, u, v0, F, r, e => by
    cases e
    refine ⟨v0, F, [], [], .nil _, r.strip, by simp, fun G' H' u' F1' s k q => ⟨t.wrap u', rfl, by simpa using r.wrap q⟩⟩
  | .ix k :: π, t, u, v0, F, r, e => by
    have rs := r.strip
    unfold T.at at e
    unfold T.put
    generalize hts : t.strip = ts0 at e rs
    cases rs with
    | ml h r' =>
      rename_i ts a vs F0
      simp only [Option.bind_eq_some_iff] at e
      obtain ⟨c, e1, e2⟩ := e
      obtain ⟨w, Fc, Fp, Fs, h1, h2, h3, h4⟩ := r'.split e1
      obtain ⟨v, F1, Fa, Fb, g1, g2, g3, g4⟩ := TR.at h2 e2
      subst h3 g3
      refine ⟨v, F1, a :: (Fp ++ Fa), Fb ++ Fs, .lst h h1 g1, g2, by simp [List.append_assoc], fun G' H' u' F1' s kp q => ?_⟩
      obtain ⟨t', p1, p2⟩ := g4 G' H' u' F1' s (kp.sub fun x hx => by simp at hx ⊢; rcases hx with z | z <;> simp [z]) q
      refine ⟨t.wrap (.ml (List.set ts k t')), by simp only [e1, Option.bind_some, p1, Option.map_some], r.wrap ?_⟩
      have q2 := h4 G' H' t' _ s (kp.sub fun x hx => by simp at hx ⊢; rcases hx with z | z <;> simp [z]) p2
      have q3 : TR K G' H' (.ml (_)) (.ref a) _ := .ml (kp a (by simp) _ h) q2
      have e9 : (a :: (Fp ++ (Fa ++ (F1' ++ Fb) ++ Fs))) = a :: (Fp ++ Fa) ++ (F1' ++ (Fb ++ Fs)) := by simp [List.append_assoc]
      rw [e9] at q3
      exact q3
    | tp h r' =>
      rename_i ts a vs F0
      simp only [Option.bind_eq_some_iff] at e
      obtain ⟨c, e1, e2⟩ := e
      obtain ⟨w, Fc, Fp, Fs, h1, h2, h3, h4⟩ := r'.split e1
      obtain ⟨v, F1, Fa, Fb, g1, g2, g3, g4⟩ := TR.at h2 e2
      subst h3 g3
      refine ⟨v, F1, a :: (Fp ++ Fa), Fb ++ Fs, .tup h h1 g1, g2, by simp [List.append_assoc], fun G' H' u' F1' s kp q => ?_⟩
      obtain ⟨t', p1, p2⟩ := g4 G' H' u' F1' s (kp.sub fun x hx => by simp at hx ⊢; rcases hx with z | z <;> simp [z]) q
      refine ⟨t.wrap (.tp (List.set ts k t')), by simp only [e1, Option.bind_some, p1, Option.map_some], r.wrap ?_⟩
      have q2 := h4 G' H' t' _ s (kp.sub fun x hx => by simp at hx ⊢; rcases hx with z | z <;> simp [z]) p2
      have q3 : TR K G' H' (.tp (_)) (.ref a) _ := .tp (kp a (by simp) _ h) q2
      have e9 : (a :: (Fp ++ (Fa ++ (F1' ++ Fb) ++ Fs))) = a :: (Fp ++ Fa) ++ (F1' ++ (Fb ++ Fs)) := by simp [List.append_assoc]
      rw [e9] at q3
      exact q3
    | _ => cases e
  | .fd f :: π, t, u, v0, F, r, e => by
    have rs := r.strip
    unfold T.at at e
    unfold T.put
    generalize hts : t.strip = ts0 at e rs
    cases rs with
    | ob h h0 r' =>
      rename_i C ts a dx vs F0
      simp only [Option.bind_eq_some_iff] at e
      obtain ⟨c, e1, e2⟩ := e
      obtain ⟨w, Fc, Fp, Fs, h1, h2, h3, h4⟩ := r'.split e1
      obtain ⟨v, F1, Fa, Fb, g1, g2, g3, g4⟩ := TR.at h2 e2
      subst h3 g3
      refine ⟨v, F1, a :: dx :: (Fp ++ Fa), Fb ++ Fs, .ob h h1 g1, g2, by simp [List.append_assoc], fun G' H' u' F1' s kp q => ?_⟩
      obtain ⟨t', p1, p2⟩ := g4 G' H' u' F1' s (kp.sub fun x hx => by simp at hx ⊢; rcases hx with z | z <;> simp [z]) q
      refine ⟨t.wrap (.ob C (setF f t' ts)), by simp only [e1, Option.bind_some, p1, Option.map_some], r.wrap ?_⟩
      have q2 := h4 G' H' t' _ s (kp.sub fun x hx => by simp at hx ⊢; rcases hx with z | z <;> simp [z]) p2
      have q3 : TR K G' H' (.ob C (_)) (.ref a) _ := .ob (kp a (by simp) _ h) (kp dx (by simp) _ h0) q2
      have e9 : (a :: dx :: (Fp ++ (Fa ++ (F1' ++ Fb) ++ Fs))) = a :: dx :: (Fp ++ Fa) ++ (F1' ++ (Fb ++ Fs)) := by simp [List.append_assoc]
      rw [e9] at q3
      exact q3
    | _ => cases e
mutual
theorem TR.alive : ∀ {t : T} {v : V} {F : List Addr}, TR K G H t v F → ∀ a ∈ F, H a ≠ none
  | _, _, _, .p _, _, h => nomatch h
  | _, _, _, .sc _, _, h => nomatch h
  | _, _, _, .ml h r, a, ha => by
    rcases List.mem_cons.mp ha with z | z
    · subst z; rw [h]; exact Option.some_ne_none _
    · exact TRs.alive r a z
  | _, _, _, .tp h r, a, ha => by
    rcases List.mem_cons.mp ha with z | z
    · subst z; rw [h]; exact Option.some_ne_none _
    · exact TRs.alive r a z
  | _, _, _, .md h r, a, ha => by
    rcases List.mem_cons.mp ha with z | z
    · subst z; rw [h]; exact Option.some_ne_none _
    · cases z
  | _, _, _, .mk h r, a, ha => by
    rcases List.mem_cons.mp ha with z | z
    · subst z; rw [h]; exact Option.some_ne_none _
    · cases z
  | _, _, _, .ob h h0 r, a, ha => by
    rcases List.mem_cons.mp ha with z | z
    · subst z; rw [h]; exact Option.some_ne_none _
    · rcases List.mem_cons.mp z with z | z
      · subst z; rw [h0]; exact Option.some_ne_none _
      · exact TRf.alive r a z
  | _, _, _, .rf r, a, ha => TR.alive r a ha
theorem TRs.alive : ∀ {t : List T} {v : List V} {F : List Addr}, TRs K G H t v F → ∀ a ∈ F, H a ≠ none
  | _, _, _, .nil, _, h => nomatch h
  | _, _, _, .cons h r, a, ha => by
    rcases List.mem_append.mp ha with z | z
    · exact TR.alive h a z
    · exact TRs.alive r a z
theorem TRf.alive : ∀ {t : List (Str × T)} {v : List (Str × V)} {F : List Addr}, TRf K G H t v F → ∀ a ∈ F, H a ≠ none
  | _, _, _, .nil, _, h => nomatch h
  | _, _, _, .cons h r, a, ha => by
    rcases List.mem_append.mp ha with z | z
    · exact TR.alive h a z
    · exact TRf.alive r a z
end
theorem ES.alive : ∀ {env : En} {σ : L2.St} {F : List Addr}, ES K G H env σ F → ∀ a ∈ F, H a ≠ none
  | _, _, _, .nil, _, h => nomatch h
  | _, _, _, .no r, a, ha => ES.alive r a ha
  | _, _, _, .so h r, a, ha => by
    rcases List.mem_append.mp ha with z | z
    · exact TR.alive h a z
    · exact ES.alive r a z
/-- the part at a path of a slot, and what a change there makes of the slots -/
theorem Rel.mut {env : En} {σ : L2.St} {F : List Addr} {i : Nat} {t u : T} {π : List Stp} (rel : Rel K G H env σ F) (ei : env[i]? = some (some t)) (eu : T.at π t = some u) :
    ∃ v0 v F1 Fo, σ[i]? = some (some v0) ∧ VAt H v0 π v ∧ TR K G H u v F1 ∧ (∀ a ∈ F1, a ∈ F) ∧ F1.Nodup ∧ (∀ a ∈ Fo, a ∈ F ∧ a ∉ F1) ∧
      ∀ G' H' u' F1', Same G G' → Same G' H' → Keep Fo H H' → TR K G' H' u' v F1' → F1'.Nodup → (∀ a ∈ F1', G' a = none ∧ a ∉ Fo) → (∀ a ∈ Fo, G' a = none) →
        ∃ t' F', T.put π t u' = some t' ∧ Rel K G' H' (env.set i (some t')) σ F' ∧ ∀ a ∈ F', a ∈ F1' ∨ a ∈ Fo := by
  obtain ⟨v0, F0, Fa, Fb, h1, h2, h3, _, h5, _⟩ := rel.es.split ei
  obtain ⟨v, F1, Fc, Fd, g1, g2, g3, g4⟩ := h2.at eu
  subst h3 g3
  have nd := rel.nd
  have e0 : Fa ++ (Fc ++ (F1 ++ Fd) ++ Fb) = (Fa ++ Fc) ++ (F1 ++ (Fd ++ Fb)) := by simp [List.append_assoc]
  rw [e0] at nd
  rw [List.nodup_append] at nd
  obtain ⟨n1, n2, n3⟩ := nd
  rw [List.nodup_append] at n2
  obtain ⟨n4, n5, n6⟩ := n2
  refine ⟨v0, v, F1, (Fa ++ Fc) ++ (Fd ++ Fb), h1, g1, g2, fun a ha => by rw [e0]; simp [ha], n4, fun a ha => ⟨?_, ?_⟩, ?_⟩
  · rw [e0]
    rcases List.mem_append.mp ha with z | z
    · exact List.mem_append_left _ z
    · exact List.mem_append_right _ (List.mem_append_right _ z)
  · intro z
    rcases List.mem_append.mp ha with w | w
    · exact n3 a w a (List.mem_append_left _ z) rfl
    · exact n6 a z a w rfl
  · intro G' H' u' F1' s sg kp q nd1 fr1 fro
    obtain ⟨t', p1, p2⟩ := g4 G' H' u' F1' s (kp.sub fun x hx => by simp at hx ⊢; rcases hx with z | z <;> simp [z]) q
    have es := h5 G' H' t' _ s (kp.sub fun x hx => by simp at hx ⊢; rcases hx with z | z <;> simp [z]) p2
    have e1 : Fa ++ (Fc ++ (F1' ++ Fd) ++ Fb) = (Fa ++ Fc) ++ (F1' ++ (Fd ++ Fb)) := by simp [List.append_assoc]
    rw [e1] at es
    have mem : ∀ a ∈ (Fa ++ Fc) ++ (F1' ++ (Fd ++ Fb)), a ∈ F1' ∨ a ∈ (Fa ++ Fc) ++ (Fd ++ Fb) := fun a ha => by
      rcases List.mem_append.mp ha with z | z
      · exact .inr (List.mem_append_left _ z)
      · rcases List.mem_append.mp z with z | z
        · exact .inl z
        · exact .inr (List.mem_append_right _ z)
    refine ⟨t', _, p1, ⟨es, ?_, fun a ha => ⟨?_, es.alive a ha⟩, sg⟩, mem⟩
    · rw [List.nodup_append]
      refine ⟨n1, List.nodup_append.mpr ⟨nd1, n5, fun a ha b hb z => (fr1 a ha).2 (by subst z; exact List.mem_append_right _ hb)⟩, fun a ha b hb z => ?_⟩
      subst z
      rcases List.mem_append.mp hb with w | w
      · exact (fr1 a w).2 (List.mem_append_left _ ha)
      · exact n3 a ha a (List.mem_append_right _ w) rfl
    · rcases mem a ha with z | z
      · exact (fr1 a z).1
      · exact fro a z
/-- an owned list at a path is changed, its new items owned by what its items owned -/
theorem Rel.lset {env : En} {σ : L2.St} {F : List Addr} {i : Nat} {t : T} {ts : List T} {π : List Stp} (rel : Rel K G H env σ F) (ei : env[i]? = some (some t)) (eu : T.at π t = some (.ml ts)) :
    ∃ v0 a vs Fk, σ[i]? = some (some v0) ∧ VAt H v0 π (.ref a) ∧ H a = some (.lst vs) ∧ TRs K G H ts vs Fk ∧ a ∈ F ∧ Fk.Nodup ∧
      ∀ ts' vs' Fk', TRs K G H ts' vs' Fk' → Fk'.Nodup → (∀ b ∈ Fk', b ∈ Fk) → ∃ t' F', T.put π t (.ml ts') = some t' ∧ Rel K G (upd H a (.lst vs')) (env.set i (some t')) σ F' ∧ ∀ b ∈ F', b ∈ F := by
  obtain ⟨v0, v, F1, Fo, h1, h2, h3, h4, h5, h6, h7⟩ := rel.mut ei eu
  cases h3 with
  | ml h r =>
    rename_i a vs Fk
    refine ⟨v0, a, vs, Fk, h1, h2, h, r, h4 a List.mem_cons_self, (List.nodup_cons.mp h5).2, fun ts' vs' Fk' r' nd' sub => ?_⟩
    have na : a ∉ Fk := (List.nodup_cons.mp h5).1
    have ga : G a = none := (rel.fr a (h4 a List.mem_cons_self)).1
    have kp : ∀ L : List Addr, a ∉ L → Keep L H (upd H a (.lst vs')) := fun L hL b hb o z => by
      rw [upd_ne (fun e => by subst e; exact hL hb)]; exact z
    have fr1 : ∀ b ∈ a :: Fk', G b = none ∧ b ∉ Fo := fun b hb => by
      have hb' : b ∈ a :: Fk := by
        rcases List.mem_cons.mp hb with z | z
        · subst z; exact List.mem_cons_self
        · exact List.mem_cons_of_mem _ (sub b z)
      exact ⟨(rel.fr b (h4 b hb')).1, fun z => (h6 b z).2 hb'⟩
    obtain ⟨t', F', p1, p2, p3⟩ := h7 G (upd H a (.lst vs')) (.ml ts') (a :: Fk') (Same.refl G) (fun b o z => by
        rw [upd_ne (ne_of_none z ga)]; exact rel.sm b o z) (kp Fo fun z => (h6 a z).2 List.mem_cons_self)
      (.ml upd_same (r'.keep (Same.refl G) (kp Fk' fun z => na (sub a z)))) (List.nodup_cons.mpr ⟨fun z => na (sub a z), nd'⟩) fr1 (fun b hb => (rel.fr b (h6 b hb).1).1)
    refine ⟨t', F', p1, p2, fun b hb => ?_⟩
    rcases p3 b hb with z | z
    · rcases List.mem_cons.mp z with z | z
      · subst z; exact h4 b List.mem_cons_self
      · exact h4 b (List.mem_cons_of_mem _ (sub b z))
    · exact (h6 b z).1
/-! lists of trees -/
theorem TRs.append : ∀ {ts us : List T} {vs ws : List V} {F F' : List Addr}, TRs K G H ts vs F → TRs K G H us ws F' → TRs K G H (ts ++ us) (vs ++ ws) (F ++ F')
  | _, _, _, _, _, _, .nil, s => s
  | _, _, _, _, _, _, .cons h r, s => by
    have q := TRs.cons h (TRs.append r s)
    rw [← List.append_assoc] at q
    exact q
theorem TRs.len : ∀ {ts : List T} {vs : List V} {F : List Addr}, TRs K G H ts vs F → vs.length = ts.length
  | _, _, _, .nil => rfl
  | _, _, _, .cons _ r => by simp [r.len]
theorem TRs.setp {v : V} {d : D} (h : Rp K G v d) : ∀ {ts : List T} {vs : List V} {F : List Addr} (k : Nat), TRs K G H ts vs F → ∃ F', TRs K G H (ts.set k (.p d)) (vs.set k v) F' ∧ F'.Sublist F
  | _, _, _, _, .nil => ⟨[], .nil, .slnil⟩
  | _, _, _, 0, .cons _ r => ⟨_, .cons (.p h) r, by simp⟩
  | _, _, _, k + 1, .cons h0 r => by
    obtain ⟨F', h1, h2⟩ := TRs.setp h k r
    exact ⟨_, .cons h0 h1, List.Sublist.append (List.Sublist.refl _) h2⟩
theorem TRs.erase : ∀ {ts : List T} {vs : List V} {F : List Addr} (k : Nat), TRs K G H ts vs F → ∃ F', TRs K G H (ts.eraseIdx k) (vs.eraseIdx k) F' ∧ F'.Sublist F
  | _, _, _, _, .nil => ⟨[], .nil, .slnil⟩
  | _, _, _, 0, .cons _ r => ⟨_, r, by simp⟩
  | _, _, _, k + 1, .cons h0 r => by
    obtain ⟨F', h1, h2⟩ := TRs.erase k r
    exact ⟨_, .cons h0 h1, List.Sublist.append (List.Sublist.refl _) h2⟩
theorem TRs.insert {v : V} {d : D} (h : Rp K G v d) : ∀ {ts : List T} {vs : List V} {F : List Addr} (k : Nat), TRs K G H ts vs F → TRs K G H (ts.take k ++ [.p d] ++ ts.drop k) (vs.take k ++ [v] ++ vs.drop k) F
  | _, _, _, _, .nil => by simp; exact .cons (F := []) (F' := []) (.p h) .nil
  | _, _, _, 0, .cons (F := F1) (F' := F2) h0 r => by
    simp
    have q := TRs.cons (TR.p (H := H) h) (TRs.cons h0 r)
    exact q
  | _, _, _, k + 1, .cons h0 r => by
    have q := TRs.insert h k r
    simp at q ⊢
    exact .cons h0 q
end
end M
/-! M8: statements that change owned trees; owned trees made. -/
namespace M
open PySem PySem.Spec PyProof.Rows L2

/-! ### paths -/
abbrev PMm := En → Option (Nat × List Stp)
def tP (K : PySem.W.Frag) (mp : PMm) : TE := fun σ H Q => ∃ G env F, Rel K G H env σ F ∧ ∃ i π, mp env = some (i, π) ∧ ∀ v v0 H' G', Ext G H G' H' → σ[i]? = some (some v0) → VAt H' v0 π v → Q v H'
abbrev PP (X : Cx) (e : Expr) (mp : PMm) : Prop := PE X e (tP X.K mp)
def slotT (env : En) (i : Nat) : Option T := (env[i]?).join
theorem slotT_eq {env : En} {i : Nat} {t : T} (e : slotT env i = some t) : env[i]? = some (some t) := by
  unfold slotT at e
  cases z : env[i]? with
  | none => rw [z] at e; cases e
  | some o => rw [z] at e; simp at e; rw [e]
def pVar (i : Nat) : PMm := fun env => (slotT env i).map fun _ => (i, [])
def T.own? : T → Option (List T)
  | .ml ts => some ts
  | .tp ts => some ts
  | _ => none
def pIx (mp : PMm) (mi : EM) : PMm := fun env => (mp env).bind fun q => (mi env).bind fun k => k.int?.bind fun k => (slotT env q.1).bind fun t => (T.at q.2 t).bind fun u => u.own?.bind fun ts => (ixN ts.length k).map fun j => (q.1, q.2 ++ [.ix j])
section
variable {X : Cx} {pos : Pos}
theorem pp_var (i : Nat) {x : Str} (hN : X.N[i]? = some x := by rfl) (hv : Vis X.env.scope x := by first | exact Or.inl rfl | exact Or.inr (Or.inl rfl) | exact Or.inr (Or.inr rfl)) (hd : (x == ("__debug__" : Str)) = false := by decide)
    (hcd : (x == ("__classdict__" : Str)) = false := by decide) : PP X (.Name x pos) (pVar i) := by
  refine PE_imp (pe_var hN hv hd hcd) fun σ H Q h => ?_
  obtain ⟨G, env, F, rel, j, π, e, q⟩ := h
  simp only [pVar, Option.map_eq_some_iff] at e
  obtain ⟨t, e1, e2⟩ := e
  cases e2
  obtain ⟨v, F1, Fa, Fb, h1, h2, _⟩ := rel.es.split (slotT_eq e1)
  exact ⟨v, h1, q v v H G (Ext.refl rel.sm) h1 (.nil _)⟩
theorem ixN_at {α : Type} {xs : List α} {k : Int} {j : Nat} {x : α} (e : ixN xs.length k = some j) (h : xs[j]? = some x) : atI xs k = some x := by
  unfold atI
  rw [e]
  exact h
theorem ixN_lt {n : Nat} {k : Int} {j : Nat} (e : ixN n k = some j) : j < n := (ixN_seq e).2.1
theorem pp_ix {a b : Expr} {mp : PMm} {mi : EM} (ha : PP X a mp) (hb : PM X b mi) (hs : PlainIx b) : PP X (.Subscript a b pos) (pIx mp mi) := by
  refine PE_imp (pe_ix ix_seq ha hb hs) fun σ H Q h => ?_
  obtain ⟨G, env, F, rel, i, π, e, q⟩ := h
  simp only [pIx, Option.bind_eq_some_iff, Option.map_eq_some_iff] at e
  obtain ⟨⟨i0, π0⟩, e1, tk, e2, k, e3, t, e4, u, e5, ts, e6, j, e7, e8⟩ := e
  cases e8
  refine ⟨G, env, F, rel, _, _, e1, fun v v0 H1 G1 x1 hs hv => ?_⟩
  refine ⟨G1, env, F, rel.ext x1, tk, e2, fun w H2 G2 F2 x2 r2 => ?_⟩
  have rel2 := (rel.ext x1).ext x2
  obtain ⟨v0', v', F1, Fo, h1, h2, h3, _⟩ := rel2.mut (slotT_eq e4) e5
  have z0 : v0' = v0 := by
    have := h1.symm.trans hs
    cases this
    rfl
  subst z0
  have hv2 := hv.mono x2.hh
  have z1 := hv2.det h2
  subst z1
  have x12 := x1.trans x2
  cases u with
  | ml us =>
    simp only [T.own?, Option.some.injEq] at e6; subst e6
    cases h3 with
    | ml h r =>
      have hj : j < us.length := ixN_lt e7
      obtain ⟨y, Fy, hy, _⟩ := r.args.get (List.getElem?_eq_getElem hj)
      exact .inl ⟨_, _, k, y, rfl, r2.int e3, .inl (.inl h), ixN_at (by rw [r.len]; exact e7) hy, q y v0' H2 G2 x12 hs (hv2.snocL h hy)⟩
  | tp us =>
    simp only [T.own?, Option.some.injEq] at e6; subst e6
    cases h3 with
    | tp h r =>
      have hj : j < us.length := ixN_lt e7
      obtain ⟨y, Fy, hy, _⟩ := r.args.get (List.getElem?_eq_getElem hj)
      exact .inr (.inl ⟨_, _, k, y, rfl, r2.int e3, .inl (.inl h), ixN_at (by rw [r.len]; exact e7) hy, q y v0' H2 G2 x12 hs (hv2.snocT h hy)⟩)
  | _ => simp [T.own?] at e6

/-- an owned list at a path, read and changed: the frame of the rules below -/
theorem lst_at {K : PySem.W.Frag} {G0 R G H : Hp} {env : En} {σ : L2.St} {F : List Addr} {i : Nat} {π : List Stp} {t : T} {ts : List T} {v v0 : V} (rel : Rel K G H env σ F) (hR : ∀ a ∈ F, R a = none) (x0 : Ext G0 R G H)
    (e1 : slotT env i = some t) (e2 : T.at π t = some (.ml ts)) (hs : σ[i]? = some (some v0)) (hv : VAt H v0 π v) :
    ∃ a vs Fk, v = .ref a ∧ H a = some (.lst vs) ∧ TRs K G H ts vs Fk ∧ Fk.Nodup ∧
      ∀ ts' vs' Fk', TRs K G H ts' vs' Fk' → Fk'.Nodup → (∀ b ∈ Fk', b ∈ Fk) → ∃ t', T.put π t (.ml ts') = some t' ∧ SR K G0 R (env.set i (some t')) σ (upd H a (.lst vs')) := by
  obtain ⟨v0', a, vs, Fk, h1, h2, h3, h4, h5, nd, h6⟩ := rel.lset (slotT_eq e1) e2
  have z0 : v0' = v0 := by
    have := h1.symm.trans hs
    cases this
    rfl
  subst z0
  have z1 := hv.det h2
  subst z1
  refine ⟨a, vs, Fk, rfl, h3, h4, nd, fun ts' vs' Fk' r' nd' sub => ?_⟩
  obtain ⟨t', F', p1, p2, p3⟩ := h6 ts' vs' Fk' r' nd' sub
  refine ⟨t', p1, G, F', p2, fun b hb => hR b (p3 b hb), ⟨x0.gg, fun b o z => ?_, p2.sm, x0.fr⟩⟩
  have : b ≠ a := fun q => by subst q; rw [hR b h5] at z; cases z
  rw [upd_ne this]
  exact x0.hh b o z
/-! ### xs.append(e), xs.insert(k, e), xs.extend(e), xs.pop(k), xs[k] = e -/
def updAt (mp : PMm) (f : List T → Option (List T)) : En → Option En := fun env => (mp env).bind fun q => (slotT env q.1).bind fun t => (T.at q.2 t).bind fun u => match u with
  | .ml ts => (f ts).bind fun ts' => (T.put q.2 t (.ml ts')).map fun t' => env.set q.1 (some t')
  | _ => none
theorem updAt_eq {mp : PMm} {f : List T → Option (List T)} {env env' : En} (e : updAt mp f env = some env') : ∃ i π t ts ts' t', mp env = some (i, π) ∧ slotT env i = some t ∧ T.at π t = some (.ml ts) ∧ f ts = some ts' ∧ T.put π t (.ml ts') = some t' ∧ env' = env.set i (some t') := by
  simp only [updAt, Option.bind_eq_some_iff] at e
  obtain ⟨⟨i, π⟩, e1, t, e2, u, e3, e4⟩ := e
  split at e4
  · simp only [Option.bind_eq_some_iff, Option.map_eq_some_iff] at e4
    obtain ⟨ts', e5, t', e6, rfl⟩ := e4
    exact ⟨i, π, t, _, ts', t', e1, e2, e3, e5, e6, rfl⟩
  · cases e4
def sAppend (mp : PMm) (me : EM) : SM := fun env => (me env).bind fun y => y.pure?.bind fun d => (updAt mp (fun ts => if ts.length < LIM then some (ts ++ [.p d]) else none) env).map .nx
variable {o e ie : Expr} {mp : PMm} {me mi : EM} {apos cpos : Pos}
theorem nodup_snoc {F : List Addr} (h : F.Nodup) : (F ++ []).Nodup := by simpa using h
theorem psm_append (ho : PP X o mp) (he : PM X e me) (hbase : attributeBase o "append" X.env (eval o X.env) = eval o X.env := by rfl)
    (hfew : ((backTo cpos (starEach [e] X.env)).all (fun x => !x.1) && (backToKw cpos (keywordEach [] X.env)).all (fun x => x.1.isSome)
      && decide ([e].length + ([] : List Keyword).length + (if ([] : List Keyword).isEmpty then 0 else 1) < 30)) = true := by rfl)
    (hline : (apos.endLine == cpos.line) = true := by rfl) (hs : starEach [e] X.env = (false, eval e X.env) :: starEach [] X.env := by rfl) (hsw : swapsWith (.Call (.Attribute o "append" apos) [e] [] cpos) none pos.line X.env = pure false := by rfl) :
    PSM X (.Expr (.Call (.Attribute o "append" apos) [e] [] cpos) pos) (sAppend mp me) := by
  refine PS_imp (ps_expr (pe_bm PySem.F.plainAttrs_list PySem.F.slot_list_append PySem.F.type_list_append mt_append ho (pam_cons he pam_nil hs) hbase hfew hline hs rfl) hsw) fun D σ H h => ?_
  obtain ⟨G0, R, env, ⟨G, F, rel, hR, x0⟩, o, e, g⟩ := h
  simp only [sAppend, Option.bind_eq_some_iff, Option.map_eq_some_iff] at e
  obtain ⟨y, e1, d, e2, env', e3, rfl⟩ := e
  obtain ⟨i, π, t, ts, ts', t', e4, e5, e6, e7, e8, rfl⟩ := updAt_eq e3
  refine ⟨G, env, F, rel, i, π, e4, fun v v0 H1 G1 x1 hs hv => ?_⟩
  obtain ⟨a, vs, Fk, rfl, ha, _⟩ := lst_at (rel.ext x1) hR (x0.trans x1) e5 e6 hs hv
  refine ⟨.inl ⟨rfl, vs, .inl (.inl ha)⟩, ?_⟩
  refine ⟨G1, env, F, rel.ext x1, [y], by simp [aCons, aNil, e1], fun ws H2 G2 x2 r => ?_⟩
  obtain ⟨w, F', rfl, hw⟩ := r.one
  have rw' := hw.of_pure? e2
  obtain ⟨a', vs', Fk', z, ha', ht, nk, up⟩ := lst_at ((rel.ext x1).ext x2) hR ((x0.trans x1).trans x2) e5 e6 hs (hv.mono x2.hh)
  cases z
  split at e7
  · rename_i hz
    cases e7
    refine ⟨a, vs', w, rfl, rfl, ha', by rw [ht.len]; exact Nat.lt_of_lt_of_le hz LIM_line, ?_⟩
    have q1 := ht.append (TRs.cons (TR.p (H := H2) rw') .nil)
    obtain ⟨t'', p1, p2⟩ := up _ _ _ q1 (by simpa using nk) (fun b hb => by simpa using hb)
    rw [e8] at p1
    cases p1
    exact g σ _ p2
  · cases e7
def insN (ts : List T) (k : Int) (d : D) : Option (List T) := if 0 ≤ k ∧ k < 2 ^ 62 ∧ ts.length < LIM then some (ts.take k.toNat ++ [.p d] ++ ts.drop k.toNat) else none
def sInsert (mp : PMm) (mi me : EM) : SM := fun env => (mi env).bind fun k => k.int?.bind fun k => (me env).bind fun y => y.pure?.bind fun d => (updAt mp (fun ts => insN ts k d) env).map .nx
theorem psm_insert (ho : PP X o mp) (hi : PM X ie mi) (he : PM X e me) (hbase : attributeBase o "insert" X.env (eval o X.env) = eval o X.env := by rfl)
    (hfew : ((backTo cpos (starEach [ie, e] X.env)).all (fun x => !x.1) && (backToKw cpos (keywordEach [] X.env)).all (fun x => x.1.isSome)
      && decide ([ie, e].length + ([] : List Keyword).length + (if ([] : List Keyword).isEmpty then 0 else 1) < 30)) = true := by rfl)
    (hline : (apos.endLine == cpos.line) = true := by rfl) (hs : starEach [ie, e] X.env = (false, eval ie X.env) :: starEach [e] X.env := by rfl) (hs2 : starEach [e] X.env = (false, eval e X.env) :: starEach [] X.env := by rfl) (hpl : (backTo cpos (starEach [e] X.env)).any (·.1) = false := by rfl)
    (hsw : swapsWith (.Call (.Attribute o "insert" apos) [ie, e] [] cpos) none pos.line X.env = pure false := by rfl) :
    PSM X (.Expr (.Call (.Attribute o "insert" apos) [ie, e] [] cpos) pos) (sInsert mp mi me) := by
  refine PS_imp (ps_expr (pe_bm PySem.F.plainAttrs_list PySem.F.slot_list_insert PySem.F.type_list_insert mt_insert ho (pam_cons hi (pam_cons he pam_nil hs2) hs) hbase hfew hline hs hpl) hsw) fun D σ H h => ?_
  obtain ⟨G0, R, env, ⟨G, F, rel, hR, x0⟩, o, e, g⟩ := h
  simp only [sInsert, Option.bind_eq_some_iff, Option.map_eq_some_iff] at e
  obtain ⟨tk, ek, k, ek2, y, e1, d, e2, env', e3, rfl⟩ := e
  obtain ⟨i, π, t, ts, ts', t', e4, e5, e6, e7, e8, rfl⟩ := updAt_eq e3
  refine ⟨G, env, F, rel, i, π, e4, fun v v0 H1 G1 x1 hs hv => ?_⟩
  obtain ⟨a, vs, Fk, rfl, ha, _⟩ := lst_at (rel.ext x1) hR (x0.trans x1) e5 e6 hs hv
  refine ⟨.inl ⟨rfl, vs, .inl (.inl ha)⟩, ?_⟩
  refine ⟨G1, env, F, rel.ext x1, [tk, y], by simp [aCons, aNil, e1, ek], fun ws H2 G2 x2 r => ?_⟩
  obtain ⟨w0, w, F0, F', rfl, hw0, hw⟩ := r.two
  have rw' := hw.of_pure? e2
  obtain ⟨a', vs', Fk', z, ha', ht, nk, up⟩ := lst_at ((rel.ext x1).ext x2) hR ((x0.trans x1).trans x2) e5 e6 hs (hv.mono x2.hh)
  cases z
  unfold insN at e7
  split at e7
  · rename_i hz
    cases e7
    refine ⟨a, vs', k, w, rfl, by rw [hw0.int ek2], ha', by rw [ht.len]; exact Nat.lt_of_lt_of_le hz.2.2 LIM_line, hz.1, by omega, ?_⟩
    have q1 := ht.insert rw' k.toNat
    obtain ⟨t'', p1, p2⟩ := up _ _ _ q1 nk (fun b hb => hb)
    rw [e8] at p1
    cases p1
    exact g σ _ p2
  · cases e7
/-- xs[k] = e -/
def setN (ts : List T) (k : Int) (d : D) : Option (List T) := (ixN ts.length k).map fun j => ts.set j (.p d)
def sSetIx (mp : PMm) (mi me : EM) : SM := fun env => (mi env).bind fun k => k.int?.bind fun k => (me env).bind fun y => y.pure?.bind fun d => (updAt mp (fun ts => setN ts k d) env).map .nx
theorem psm_setIx {tpos : Pos} (ho : PP X o mp) (hi : PM X ie mi) (he : PM X e me)
    (ha : ∀ v, assign (.Subscript o ie tpos) X.env v = (do
      let ov ← holding [v] (eval o X.env)
      let iv ← holding [v, ov] (eval ie X.env)
      standAt tpos
      holding [v, ov, iv] (setItem ov iv v)
      release [v, ov, iv] []) := by intro _; rfl)
    (hs : swapsWithSole [.Subscript o ie tpos] e pos.line X.env = pure false := by rfl) (hw : swappedStores [.Subscript o ie tpos] e X.env = pure none := by rfl)
    (h1 : (assignEach [.Subscript o ie tpos] X.env).map (·.2) = [assign (.Subscript o ie tpos) X.env] := by rfl) : PSM X (.Assign [.Subscript o ie tpos] e pos) (sSetIx mp mi me) := by
  refine PS_imp (ps_asg he (pg_sub ho hi set_list ha) hs hw h1) fun D σ H h => ?_
  obtain ⟨G0, R, env, ⟨G, F, rel, hR, x0⟩, o, e, g⟩ := h
  simp only [sSetIx, Option.bind_eq_some_iff, Option.map_eq_some_iff] at e
  obtain ⟨tk, ek, k, ek2, y, e1, d, e2, env', e3, rfl⟩ := e
  obtain ⟨i, π, t, ts, ts', t', e4, e5, e6, e7, e8, rfl⟩ := updAt_eq e3
  refine ⟨G, env, F, rel, y, e1, fun w H1 G1 F1 x1 r1 => ?_⟩
  refine ⟨G1, env, F, rel.ext x1, i, π, e4, fun v v0 H2 G2 x2 hs hv => ?_⟩
  refine ⟨G2, env, F, (rel.ext x1).ext x2, tk, ek, fun kv H3 G3 F3 x3 r3 => ?_⟩
  have x23 := x2.trans x3
  obtain ⟨a', vs', Fk', rfl, ha', ht, nk, up⟩ := lst_at (((rel.ext x1).ext x2).ext x3) hR (((x0.trans x1).trans x2).trans x3) e5 e6 hs (hv.mono x3.hh)
  simp only [setN, Option.map_eq_some_iff] at e7
  obtain ⟨j, e9, rfl⟩ := e7
  refine ⟨a', vs', k, j, rfl, r3.int ek2, ha', by rw [ht.len]; exact e9, ?_⟩
  obtain ⟨F4, q1, q2⟩ := ht.setp ((r1.of_pure? e2).mono x23.gg) j
  obtain ⟨t'', p1, p2⟩ := up _ _ _ q1 (nk.sublist q2) (fun b hb => q2.subset hb)
  rw [e8] at p1
  cases p1
  exact g σ _ p2
/-- xs.pop(k), its value dropped -/
def sPopAt (mp : PMm) (mi : EM) : SM := fun env => (mi env).bind fun k => k.int?.bind fun k => if -(2 ^ 62) ≤ k ∧ k < 2 ^ 62 then (updAt mp (fun ts => (ixN ts.length k).map fun j => ts.eraseIdx j) env).map .nx else none
theorem psm_popAt (ho : PP X o mp) (hi : PM X ie mi) (hbase : attributeBase o "pop" X.env (eval o X.env) = eval o X.env := by rfl)
    (hfew : ((backTo cpos (starEach [ie] X.env)).all (fun x => !x.1) && (backToKw cpos (keywordEach [] X.env)).all (fun x => x.1.isSome)
      && decide ([ie].length + ([] : List Keyword).length + (if ([] : List Keyword).isEmpty then 0 else 1) < 30)) = true := by rfl)
    (hline : (apos.endLine == cpos.line) = true := by rfl) (hs : starEach [ie] X.env = (false, eval ie X.env) :: starEach [] X.env := by rfl) (hsw : swapsWith (.Call (.Attribute o "pop" apos) [ie] [] cpos) none pos.line X.env = pure false := by rfl) :
    PSM X (.Expr (.Call (.Attribute o "pop" apos) [ie] [] cpos) pos) (sPopAt mp mi) := by
  refine PS_imp (ps_expr (pe_bm PySem.F.plainAttrs_list PySem.F.slot_list_pop PySem.F.type_list_pop mt_popAt ho (pam_cons hi pam_nil hs) hbase hfew hline hs rfl) hsw) fun D σ H h => ?_
  obtain ⟨G0, R, env, ⟨G, F, rel, hR, x0⟩, o, e, g⟩ := h
  simp only [sPopAt, Option.bind_eq_some_iff] at e
  obtain ⟨tk, ek, k, ek2, e⟩ := e
  split at e
  · rename_i hk
    rw [Option.map_eq_some_iff] at e
    obtain ⟨env', e3, rfl⟩ := e
    obtain ⟨i, π, t, ts, ts', t', e4, e5, e6, e7, e8, rfl⟩ := updAt_eq e3
    refine ⟨G, env, F, rel, i, π, e4, fun v v0 H1 G1 x1 hs hv => ?_⟩
    obtain ⟨a, vs, Fk, rfl, ha, _⟩ := lst_at (rel.ext x1) hR (x0.trans x1) e5 e6 hs hv
    refine ⟨.inl ⟨rfl, vs, .inl (.inl ha)⟩, ?_⟩
    refine ⟨G1, env, F, rel.ext x1, [tk], by simp [aCons, aNil, ek], fun ws H2 G2 x2 r => ?_⟩
    obtain ⟨w0, F0, rfl, hw0⟩ := r.one
    obtain ⟨a', vs', Fk', z, ha', ht, nk, up⟩ := lst_at ((rel.ext x1).ext x2) hR ((x0.trans x1).trans x2) e5 e6 hs (hv.mono x2.hh)
    cases z
    rw [Option.map_eq_some_iff] at e7
    obtain ⟨j, e9, rfl⟩ := e7
    obtain ⟨s1, s2, s3, s4⟩ := ixN_seq e9
    have hj : j < vs'.length := by rw [ht.len]; exact s2
    refine ⟨a, vs', k, j, vs'[j], rfl, by rw [hw0.int ek2], ha', by omega, by omega, by rw [ht.len]; exact s1, List.getElem?_eq_getElem hj, ?_⟩
    obtain ⟨F4, q1, q2⟩ := ht.erase j
    obtain ⟨t'', p1, p2⟩ := up _ _ _ q1 (nk.sublist q2) (fun b hb => q2.subset hb)
    rw [e8] at p1
    cases p1
    exact g σ _ p2
  · cases e
/-- x = xs.pop(k); x another slot -/
def popN (mp : PMm) (k : Int) (env : En) : Option (En × D) := (mp env).bind fun q => (slotT env q.1).bind fun t => (T.at q.2 t).bind fun u => match u with
  | .ml ts => (ixN ts.length k).bind fun j => (ts[j]?).bind fun y => y.pure?.bind fun d => (T.put q.2 t (.ml (ts.eraseIdx j))).map fun t' => (env.set q.1 (some t'), d)
  | _ => none
theorem popN_eq {mp : PMm} {k : Int} {env env' : En} {d : D} (e : popN mp k env = some (env', d)) : ∃ i π t ts j t', mp env = some (i, π) ∧ slotT env i = some t ∧ T.at π t = some (.ml ts) ∧ ixN ts.length k = some j ∧ ts[j]? = some (.p d) ∧ T.put π t (.ml (ts.eraseIdx j)) = some t' ∧ env' = env.set i (some t') := by
  simp only [popN, Option.bind_eq_some_iff] at e
  obtain ⟨⟨i, π⟩, e1, t, e2, u, e3, e4⟩ := e
  split at e4
  · simp only [Option.bind_eq_some_iff, Option.map_eq_some_iff] at e4
    obtain ⟨j, e5, y, e6, d', e7, t', e8, e9⟩ := e4
    cases e9
    cases y with
    | p d2 => simp [T.pure?] at e7; subst e7; exact ⟨i, π, t, _, j, t', e1, e2, e3, e5, e6, e8, rfl⟩
    | _ => simp [T.pure?] at e7
  · cases e4
def sSetPopAt (x : Nat) (mp : PMm) (mi : EM) : SM := fun env => (mi env).bind fun k => k.int?.bind fun k => if -(2 ^ 62) ≤ k ∧ k < 2 ^ 62 then (popN mp k env).map fun r => .nx (r.1.set x (some (.p r.2))) else none
def sSetPop (x : Nat) (mp : PMm) : SM := fun env => (popN mp (-1) env).map fun r => .nx (r.1.set x (some (.p r.2)))
theorem SR.putp' {K : PySem.W.Frag} {G0 R H : Hp} {env : En} {σ : L2.St} (s : SR K G0 R env σ H) (i : Nat) {v : V} {d : D} (h : ∀ G, (∃ F, Rel K G H env σ F) → Ext G0 R G H → Rp K G v d) : SR K G0 R (env.set i (some (.p d))) (σ.set i (some v)) H := by
  obtain ⟨G, F, rel, hR, x0⟩ := s
  exact SR.putp rel hR x0 i (h G ⟨F, rel⟩ x0)
theorem lst_atG {K : PySem.W.Frag} {G0 R G H : Hp} {env : En} {σ : L2.St} {F : List Addr} {i : Nat} {π : List Stp} {t : T} {ts : List T} {v v0 : V} (rel : Rel K G H env σ F) (hR : ∀ a ∈ F, R a = none) (x0 : Ext G0 R G H)
    (e1 : slotT env i = some t) (e2 : T.at π t = some (.ml ts)) (hs : σ[i]? = some (some v0)) (hv : VAt H v0 π v) :
    ∃ a vs Fk, v = .ref a ∧ H a = some (.lst vs) ∧ TRs K G H ts vs Fk ∧ Fk.Nodup ∧
      ∀ ts' vs' Fk', TRs K G H ts' vs' Fk' → Fk'.Nodup → (∀ b ∈ Fk', b ∈ Fk) → ∃ t' F', T.put π t (.ml ts') = some t' ∧ Rel K G (upd H a (.lst vs')) (env.set i (some t')) σ F' ∧ (∀ a ∈ F', R a = none) ∧ Ext G0 R G (upd H a (.lst vs')) := by
  obtain ⟨v0', a, vs, Fk, h1, h2, h3, h4, h5, nd, h6⟩ := rel.lset (slotT_eq e1) e2
  have z0 : v0' = v0 := by
    have := h1.symm.trans hs
    cases this
    rfl
  subst z0
  have z1 := hv.det h2
  subst z1
  refine ⟨a, vs, Fk, rfl, h3, h4, nd, fun ts' vs' Fk' r' nd' sub => ?_⟩
  obtain ⟨t', F', p1, p2, p3⟩ := h6 ts' vs' Fk' r' nd' sub
  refine ⟨t', F', p1, p2, fun b hb => hR b (p3 b hb), ⟨x0.gg, fun b o z => ?_, p2.sm, x0.fr⟩⟩
  have : b ≠ a := fun q => by subst q; rw [hR b h5] at z; cases z
  rw [upd_ne this]
  exact x0.hh b o z
theorem psm_setPopAt {x : Str} {j : Nat} {pos' : Pos} (hN : X.N.Nodup) (ho : PP X o mp) (hi : PM X ie mi) (hj : X.N[j]? = some x := by rfl) (hx : Loc X.env.scope x := by first | exact Or.inl rfl | exact Or.inr rfl) (hbase : attributeBase o "pop" X.env (eval o X.env) = eval o X.env := by rfl)
    (hfew : ((backTo cpos (starEach [ie] X.env)).all (fun x => !x.1) && (backToKw cpos (keywordEach [] X.env)).all (fun x => x.1.isSome)
      && decide ([ie].length + ([] : List Keyword).length + (if ([] : List Keyword).isEmpty then 0 else 1) < 30)) = true := by rfl)
    (hline : (apos.endLine == cpos.line) = true := by rfl) (hs : starEach [ie] X.env = (false, eval ie X.env) :: starEach [] X.env := by rfl) (hsw : swapsWith (.Call (.Attribute o "pop" apos) [ie] [] cpos) (some (.Name x pos')) pos.line X.env = pure false := by rfl)
    (hf : X.fn x = true ∨ X.env.scope.names.lookup x = some .local := by first | exact .inl rfl | exact .inr rfl | assumption) :
    PSM X (.Assign [.Name x pos'] (.Call (.Attribute o "pop" apos) [ie] [] cpos) pos) (sSetPopAt j mp mi) := by
  refine PS_imp (ps_set hN hj hx (pe_bm PySem.F.plainAttrs_list PySem.F.slot_list_pop PySem.F.type_list_pop mt_popAt ho (pam_cons hi pam_nil hs) hbase hfew hline hs rfl) hsw hf) fun D σ H h => ?_
  obtain ⟨G0, R, env, ⟨G, F, rel, hR, x0⟩, o, e, g⟩ := h
  simp only [sSetPopAt, Option.bind_eq_some_iff] at e
  obtain ⟨tk, ek, k, ek2, e⟩ := e
  split at e
  · rename_i hk
    rw [Option.map_eq_some_iff] at e
    obtain ⟨⟨env', d⟩, e3, rfl⟩ := e
    obtain ⟨i, π, t, ts, j, t', e4, e5, e6, e7, e8, e9, rfl⟩ := popN_eq e3
    refine ⟨G, env, F, rel, i, π, e4, fun v v0 H1 G1 x1 hs hv => ?_⟩
    obtain ⟨a, vs, Fk, rfl, ha, _⟩ := lst_at (rel.ext x1) hR (x0.trans x1) e5 e6 hs hv
    refine ⟨.inl ⟨rfl, vs, .inl (.inl ha)⟩, ?_⟩
    refine ⟨G1, env, F, rel.ext x1, [tk], by simp [aCons, aNil, ek], fun ws H2 G2 x2 r => ?_⟩
    obtain ⟨w0, F0, rfl, hw0⟩ := r.one
    obtain ⟨a', vs', Fk', z, ha', ht, nk, up⟩ := lst_atG ((rel.ext x1).ext x2) hR ((x0.trans x1).trans x2) e5 e6 hs (hv.mono x2.hh)
    cases z
    obtain ⟨s1, s2, s3, s4⟩ := ixN_seq e7
    obtain ⟨y, Fy, hy, ry⟩ := ht.args.get e8
    refine ⟨a, vs', k, j, y, rfl, by rw [hw0.int ek2], ha', by omega, by omega, by rw [ht.len]; exact s1, hy, ?_⟩
    obtain ⟨F4, q1, q2⟩ := ht.erase j
    obtain ⟨t'', F5, p1, p2, p3, p4⟩ := up _ _ _ q1 (nk.sublist q2) (fun b hb => q2.subset hb)
    rw [e9] at p1
    cases p1
    exact g _ _ (SR.putp p2 p3 p4 _ ry.pure)
  · cases e
theorem psm_setPop {x : Str} {j : Nat} {pos' : Pos} (hN : X.N.Nodup) (ho : PP X o mp) (hj : X.N[j]? = some x := by rfl) (hx : Loc X.env.scope x := by first | exact Or.inl rfl | exact Or.inr rfl) (hbase : attributeBase o "pop" X.env (eval o X.env) = eval o X.env := by rfl)
    (hline : (apos.endLine == cpos.line) = true := by rfl) (hsw : swapsWith (.Call (.Attribute o "pop" apos) [] [] cpos) (some (.Name x pos')) pos.line X.env = pure false := by rfl)
    (hf : X.fn x = true ∨ X.env.scope.names.lookup x = some .local := by first | exact .inl rfl | exact .inr rfl | assumption) :
    PSM X (.Assign [.Name x pos'] (.Call (.Attribute o "pop" apos) [] [] cpos) pos) (sSetPop j mp) := by
  refine PS_imp (ps_set hN hj hx (pe_bm0 PySem.F.plainAttrs_list PySem.F.slot_list_pop PySem.F.type_list_pop mt_pop ho hbase hline) hsw hf) fun D σ H h => ?_
  obtain ⟨G0, R, env, ⟨G, F, rel, hR, x0⟩, o, e, g⟩ := h
  simp only [sSetPop, Option.map_eq_some_iff] at e
  obtain ⟨⟨env', d⟩, e3, rfl⟩ := e
  obtain ⟨i, π, t, ts, j, t', e4, e5, e6, e7, e8, e9, rfl⟩ := popN_eq e3
  refine ⟨G, env, F, rel, i, π, e4, fun v v0 H1 G1 x1 hs hv => ?_⟩
  obtain ⟨a', vs', Fk', rfl, ha', ht, nk, up⟩ := lst_atG (rel.ext x1) hR (x0.trans x1) e5 e6 hs hv
  refine ⟨.inl ⟨rfl, vs', .inl (.inl ha')⟩, ?_⟩
  obtain ⟨s1, s2, s3, s4⟩ := ixN_seq e7
  have hj : j = ts.length - 1 := by
    unfold ixN at e7
    rw [if_neg (by omega), if_pos (by omega)] at e7
    cases e7
    omega
  obtain ⟨y, Fy, hy, ry⟩ := ht.args.get e8
  refine ⟨a', vs', y, rfl, rfl, ha', by rw [ht.len, ← hj]; exact hy, ?_⟩
  obtain ⟨F4, q1, q2⟩ := ht.erase j
  have hd : vs'.dropLast = vs'.eraseIdx j := by
    rw [hj, ← ht.len]
    exact (PyProof.Rows.Copied.eraseIdx_last vs').symm
  rw [hd]
  obtain ⟨t'', F5, p1, p2, p3, p4⟩ := up _ _ _ q1 (nk.sublist q2) (fun b hb => q2.subset hb)
  rw [e9] at p1
  cases p1
  exact g _ _ (SR.putp p2 p3 p4 _ ry.pure)
/-- xs.extend(e) -/
def sExtend (mp : PMm) (me : EM) : SM := fun env => (me env).bind fun y => match y with
  | .p (.list ds) => (updAt mp (fun ts => if ts.length + ds.length ≤ LIM then some (ts ++ ds.map T.p) else none) env).map .nx
  | _ => none
theorem psm_extend (ho : PP X o mp) (he : PM X e me) (hbase : attributeBase o "extend" X.env (eval o X.env) = eval o X.env := by rfl)
    (hfew : ((backTo cpos (starEach [e] X.env)).all (fun x => !x.1) && (backToKw cpos (keywordEach [] X.env)).all (fun x => x.1.isSome)
      && decide ([e].length + ([] : List Keyword).length + (if ([] : List Keyword).isEmpty then 0 else 1) < 30)) = true := by rfl)
    (hline : (apos.endLine == cpos.line) = true := by rfl) (hs : starEach [e] X.env = (false, eval e X.env) :: starEach [] X.env := by rfl) (hsw : swapsWith (.Call (.Attribute o "extend" apos) [e] [] cpos) none pos.line X.env = pure false := by rfl) :
    PSM X (.Expr (.Call (.Attribute o "extend" apos) [e] [] cpos) pos) (sExtend mp me) := by
  refine PS_imp (ps_expr (pe_bm PySem.F.plainAttrs_list PySem.F.slot_list_extend PySem.F.type_list_extend mt_extend ho (pam_cons he pam_nil hs) hbase hfew hline hs rfl) hsw) fun D σ H h => ?_
  obtain ⟨G0, R, env, ⟨G, F, rel, hR, x0⟩, o, e, g⟩ := h
  simp only [sExtend, Option.bind_eq_some_iff] at e
  obtain ⟨y, e1, e⟩ := e
  split at e
  · rename_i ds
    rw [Option.map_eq_some_iff] at e
    obtain ⟨env', e3, rfl⟩ := e
    obtain ⟨i, π, t, ts, ts', t', e4, e5, e6, e7, e8, rfl⟩ := updAt_eq e3
    refine ⟨G, env, F, rel, i, π, e4, fun v v0 H1 G1 x1 hs hv => ?_⟩
    obtain ⟨a, vs, Fk, rfl, ha, _⟩ := lst_at (rel.ext x1) hR (x0.trans x1) e5 e6 hs hv
    refine ⟨.inl ⟨rfl, vs, .inl (.inl ha)⟩, ?_⟩
    refine ⟨G1, env, F, rel.ext x1, [.p (.list ds)], by simp [aCons, aNil, e1], fun ws H2 G2 x2 r => ?_⟩
    obtain ⟨w, F', rfl, hw⟩ := r.one
    obtain ⟨a', vs', Fk', z, ha', ht, nk, up⟩ := lst_at ((rel.ext x1).ext x2) hR ((x0.trans x1).trans x2) e5 e6 hs (hv.mono x2.hh)
    cases z
    split at e7
    · rename_i hz
      cases e7
      cases hw.pure with
      | lst hb rb =>
        rename_i bb zs
        refine ⟨a, bb, vs', zs, rfl, rfl, ha', x2.gh _ _ hb, by rw [ht.len, rb.length]; exact Nat.le_trans hz LIM_line, ?_⟩
        have q1 := ht.append (TRs.of_pures (H := H2) rb)
        obtain ⟨t'', p1, p2⟩ := up _ _ _ q1 (by simpa using nk) (fun b hb => by simpa using hb)
        rw [e8] at p1
        cases p1
        exact g σ _ p2
    · cases e7
  · cases e
end

/-! ### owned trees made -/
def tF (K : PySem.W.Frag) (m : EM) : TE := fun σ H Q => ∃ G env F, Rel K G H env σ F ∧ ∃ t, m env = some t ∧ ∀ v H' G' F', Ext G H G' H' → TR K G' H' t v F' → F'.Nodup → (∀ a ∈ F', G' a = none ∧ H a = none) → Q v H'
abbrev PF (X : Cx) (e : Expr) (m : EM) : Prop := PE X e (tF X.K m)
def tAF (K : PySem.W.Frag) (m : En → Option (List T)) : TA := fun σ H Q => ∃ G env F, Rel K G H env σ F ∧ ∃ ts, m env = some ts ∧ ∀ vs H' G' F', Ext G H G' H' → TRs K G' H' ts vs F' → F'.Nodup → (∀ a ∈ F', G' a = none ∧ H a = none) → Q vs H'
abbrev PAF (X : Cx) (es : List Expr) (m : En → Option (List T)) : Prop := PA X es (tAF X.K m)
section
variable {X : Cx} {pos : Pos} {e : Expr} {es : List Expr} {me : EM} {ms : En → Option (List T)}
def mPure (m : EM) : EM := fun env => (m env).bind fun t => t.pure?.map T.p
theorem pf_pure (h : PM X e me) : PF X e (mPure me) := by
  refine PE_imp h fun σ H Q h => ?_
  obtain ⟨G, env, F, rel, t, e1, q⟩ := h
  simp only [mPure, Option.bind_eq_some_iff, Option.map_eq_some_iff] at e1
  obtain ⟨u, e2, d, e3, rfl⟩ := e1
  exact ⟨G, env, F, rel, u, e2, fun v H' G' F' x r => q v H' G' [] x (.p (r.of_pure? e3)) .nil (fun _ z => nomatch z)⟩
theorem paf_nil : PAF X [] aNil := by
  refine PA_imp pa_nil fun σ H Q h => ?_
  obtain ⟨G, env, F, rel, ts, e, q⟩ := h
  cases e
  exact q [] H G [] (Ext.refl rel.sm) .nil .nil (fun _ z => nomatch z)
theorem Ext.not {G H G' H' : Hp} (x : Ext G H G' H') {a : Addr} (g : G a = none) (h : H a ≠ none) : G' a = none := by
  cases z : G' a with
  | none => rfl
  | some o =>
    rcases x.fr a (by rw [z]; exact Option.some_ne_none o) with w | w
    · exact absurd g w
    · exact absurd w h
theorem paf_cons (ha : PF X e me) (hr : PAF X es ms) (hs : starEach (e :: es) X.env = (false, eval e X.env) :: starEach es X.env := by rfl) : PAF X (e :: es) (aCons me ms) := by
  refine PA_imp (pa_cons ha hr hs) fun σ H Q h => ?_
  obtain ⟨G, env, F, rel, ts, e1, q⟩ := h
  simp only [aCons, Option.bind_eq_some_iff, Option.map_eq_some_iff] at e1
  obtain ⟨t, e2, tr, e3, rfl⟩ := e1
  refine ⟨G, env, F, rel, t, e2, fun x H1 G1 F1 x1 r1 n1 f1 => ?_⟩
  refine ⟨G1, env, F, rel.ext x1, tr, e3, fun ys H2 G2 F2 x2 r2 n2 f2 => ?_⟩
  refine q (x :: ys) H2 G2 (F1 ++ F2) (x1.trans x2) (.cons (r1.keep x2.gg (Keep.of x2.hh)) r2) (List.nodup_append.mpr ⟨n1, n2, fun a ha b hb z => ?_⟩) fun a ha => ?_
  · subst z
    exact r1.alive a ha (f2 a hb).2
  · rcases List.mem_append.mp ha with z | z
    · exact ⟨x2.not (f1 a z).1 (r1.alive a z), (f1 a z).2⟩
    · exact ⟨(f2 a z).1, x1.hh.free (f2 a z).2⟩
def mLstF (ms : En → Option (List T)) : EM := fun env => (ms env).bind fun ts => if ts.length ≤ LIM then some (.ml ts) else none
theorem pf_lst (h : PAF X es ms) : PF X (.List es pos) (mLstF ms) := by
  refine PE_imp (pe_lst h) fun σ H Q q => ?_
  obtain ⟨G, env, F, rel, t, e1, q⟩ := q
  simp only [mLstF, Option.bind_eq_some_iff] at e1
  obtain ⟨ts, e2, e4⟩ := e1
  split at e4
  · rename_i hz
    cases e4
    refine ⟨G, env, F, rel, ts, e2, fun vs H1 G1 F1 x1 r1 n1 f1 => ?_⟩
    refine ⟨by rw [r1.len]; exact Nat.le_trans hz LIM_line, fun p np => ?_⟩
    have x2 := Ext.fresh (o := .lst vs) x1.gh np
    refine q _ _ _ (p :: F1) (x1.trans x2) (.ml upd_same (r1.keep x2.gg (Keep.of x2.hh))) (List.nodup_cons.mpr ⟨fun z => r1.alive p z np, n1⟩) fun a ha => ?_
    rcases List.mem_cons.mp ha with z | z
    · subst z; exact ⟨x1.gh.free np, x1.hh.free np⟩
    · exact f1 a z
  · cases e4
/-- list(e) -/
def mListF (m : EM) : EM := fun env => (m env).bind fun t => t.any?.map fun ds => .ml (ds.map T.p)
theorem pf_list {p : Pos} (hg : Gl X "list") (hm : X.mg "list" = none) (he : PM X e me) (hs : starEach [e] X.env = (false, eval e X.env) :: starEach [] X.env := by rfl) : PF X (.Call (.Name "list" p) [e] [] pos) (mListF me) := by
  refine PE_imp (pe_callTy call_list_of hg hm boot_list (pam_cons he pam_nil hs) (by decide) (by decide) hs rfl) fun σ H Q h => ?_
  obtain ⟨G, env, F, rel, t, e1, q⟩ := h
  simp only [mListF, Option.bind_eq_some_iff, Option.map_eq_some_iff] at e1
  obtain ⟨u, e2, ds, e3, rfl⟩ := e1
  refine ⟨G, env, F, rel, [u], by simp [aCons, aNil, e2], fun vs H1 G1 x1 r => ?_⟩
  obtain ⟨v, F', rfl, h⟩ := r.one
  obtain ⟨a, vs, rfl, h1, p1⟩ := h.any x1.gh e3
  refine ⟨a, vs, rfl, h1, fun l nl => ?_⟩
  have x2 := Ext.fresh (o := .lst vs) x1.gh nl
  refine q _ _ _ [l] (x1.trans x2) (.ml upd_same (TRs.of_pures p1)) (by simp) fun b hb => ?_
  have : b = l := by simpa using hb
  subst this
  exact ⟨x1.gh.free nl, x1.hh.free nl⟩
/-- list(range(e)) -/
def mListR1F (m : EM) : EM := fun env => (mListR1 m env).bind fun t => match t with
  | .p (.list ds) => some (.ml (ds.map T.p))
  | _ => none
theorem pf_listR1 {p p2 p3 : Pos} (hc : X.calm = true) (hg : Gl X "list") (hm : X.mg "list" = none) (hg2 : Gl X "range") (hm2 : X.mg "range" = none) (he : PM X e me) (na : starEach [e] X.env = (false, eval e X.env) :: starEach [] X.env := by rfl) :
    PF X (.Call (.Name "list" p) [.Call (.Name "range" p2) [e] [] p3] [] pos) (mListR1F me) := by
  refine PE_imp (pe_listRg hc hg hm (prg_1 hg2 hm2 he na)) fun σ H Q h => ?_
  obtain ⟨G, env, F, rel, t, e1, q⟩ := h
  simp only [mListR1F, mListR1, Option.bind_eq_some_iff] at e1
  obtain ⟨t0, ⟨t1, e2, j, e3, e4⟩, e5⟩ := e1
  split at e4
  · rename_i hz
    cases e4
    cases e5
    refine ⟨G, env, F, rel, t1, e2, fun x H1 G1 F1 x1 r1 => ?_⟩
    refine ⟨j, r1.int e3, ⟨by omega, by omega, by omega, by omega, by omega⟩, fun l nl => ?_⟩
    have x2 := Ext.fresh (o := .lst (rgV 0 j)) x1.gh nl
    refine q _ _ _ [l] (x1.trans x2) (.ml upd_same (TRs.of_pures (Rps.rng 0 j))) (by simp) fun b hb => ?_
    have : b = l := by simpa using hb
    subst this
    exact ⟨x1.gh.free nl, x1.hh.free nl⟩
  · cases e4
/-- [c] * n, a + b: made lists -/
def mRepF (a b : EM) : EM := fun env => (a env).bind fun x => (b env).bind fun y => x.lst?.bind fun xs => y.int?.bind fun j => if -(2 ^ 62) ≤ j ∧ j < 2 ^ 62 ∧ xs.length * j.toNat ≤ LIM then some (.ml ((List.replicate j.toNat xs).flatten.map T.p)) else none
variable {b : Expr} {mb : EM}
theorem pf_rep (ha : PM X e me) (hb : PM X b mb) : PF X (.BinOp e .Mult b pos) (mRepF me mb) := by
  refine PE_imp (pe_op op_rep ha hb) fun σ H Q h => ?_
  obtain ⟨G, env, F, rel, t, e1, q⟩ := h
  simp only [mRepF, Option.bind_eq_some_iff] at e1
  obtain ⟨x, e2, y, e3, xs, e4, j, e5, e6⟩ := e1
  split at e6
  · rename_i hz
    cases e6
    refine ⟨G, env, F, rel, x, e2, fun v H1 G1 F1 x1 r1 => ⟨G1, env, F, rel.ext x1, y, e3, fun w H2 G2 F2 x2 r2 => ?_⟩⟩
    obtain ⟨a, vs, rfl, h1, p1⟩ := (r1.keep x2.gg (Keep.of x2.hh)).lst x2.gh e4
    refine ⟨a, j, vs, rfl, r2.int e5, h1, by omega, by omega, by rw [p1.length]; exact Nat.le_trans hz.2.2 LIM_line, fun l nl => ?_⟩
    have x3 := Ext.fresh (o := .lst (List.replicate j.toNat vs).flatten) x2.gh nl
    refine q _ _ _ [l] ((x1.trans x2).trans x3) (.ml upd_same (TRs.of_pures (p1.rep _))) (by simp) fun c hc => ?_
    have : c = l := by simpa using hc
    subst this
    exact ⟨x2.gh.free nl, x1.hh.free (x2.hh.free nl)⟩
  · cases e6
def mCatF (a b : EM) : EM := fun env => (a env).bind fun x => (b env).bind fun y => x.lst?.bind fun xs => y.lst?.bind fun ys => if xs.length + ys.length ≤ LIM then some (.ml ((xs ++ ys).map T.p)) else none
theorem pf_cat (ha : PM X e me) (hb : PM X b mb) : PF X (.BinOp e .Add b pos) (mCatF me mb) := by
  refine PE_imp (pe_op op_cat ha hb) fun σ H Q h => ?_
  obtain ⟨G, env, F, rel, t, e1, q⟩ := h
  simp only [mCatF, Option.bind_eq_some_iff] at e1
  obtain ⟨x, e2, y, e3, xs, e4, ys, e5, e6⟩ := e1
  split at e6
  · rename_i hz
    cases e6
    refine ⟨G, env, F, rel, x, e2, fun v H1 G1 F1 x1 r1 => ⟨G1, env, F, rel.ext x1, y, e3, fun w H2 G2 F2 x2 r2 => ?_⟩⟩
    obtain ⟨a, vs, rfl, h1, p1⟩ := (r1.keep x2.gg (Keep.of x2.hh)).lst x2.gh e4
    obtain ⟨a2, ws, rfl, h2, p2⟩ := r2.lst x2.gh e5
    refine ⟨a, a2, vs, ws, rfl, rfl, h1, h2, by rw [p1.length, p2.length]; exact Nat.le_trans hz LIM_line, fun l nl => ?_⟩
    have x3 := Ext.fresh (o := .lst (vs ++ ws)) x2.gh nl
    refine q _ _ _ [l] ((x1.trans x2).trans x3) (.ml upd_same (TRs.of_pures (p1.append p2))) (by simp) fun c hc => ?_
    have : c = l := by simpa using hc
    subst this
    exact ⟨x2.gh.free nl, x1.hh.free (x2.hh.free nl)⟩
  · cases e6
/-- [..] of pure items, owned -/
def mLcF (mi : En → Option (List D)) (vs : List Nat) (g : D → En → Option En) (tt : En → Option Bool) (me : EM) : EM := fun env => (mi env).bind fun ds => (lcRun g tt me (wipeE env vs) ds).bind fun out => if out.length ≤ LIM then some (.ml (out.map T.p)) else none
theorem tLcF {K : PySem.W.Frag} {fz : Bool} {mi : En → Option (List D)} {js vs : List Nat} {g : D → En → Option En} {tt : En → Option Bool} {me : EM} (hj : ∀ j ∈ js, j ∈ vs) {σ : L2.St} {H : Hp} {Q : VK} (h : tF K (mLcF mi vs g tt me) σ H Q) :
    tLc (iM K fz mi) (gM K js g) (tTM K tt) (tM K me) vs σ H Q := by
  obtain ⟨G, env, F, rel, t, e, q⟩ := h
  simp only [mLcF, Option.bind_eq_some_iff] at e
  obtain ⟨ds, e1, out, e2, e3⟩ := e
  split at e3
  · rename_i hz
    cases e3
    refine lcM hj ⟨G, env, F, rel, ds, out, e1, e2, hz, fun p vs' H' G' x hp gp h1 h2 => ?_⟩
    refine q _ H' G' [p] x (.ml h1 (TRs.of_pures h2)) (by simp) fun b hb => ?_
    have : b = p := by simpa using hb
    subst this
    exact ⟨gp, hp⟩
  · cases e3
theorem pf_lc {elt tg iter : Expr} {ifs : List Expr} {scope : Scope} {own : List (Str × Nat)} {fz : Bool} {mi : En → Option (List D)} {js : List Nat} {g : D → En → Option En} {tt : En → Option Bool} {me : EM} (hc : X.calm = true) (hN : X.N.Nodup) (hi : PIM X tg iter fz mi) (ok : BlkOk X.N X.env.scope scope own)
    (hg : ∀ (s : Shared) (H : Hp) (C : Addr) (cl : List (Str × Addr)) (fp : List Addr), GM (X.blk s H scope (compEnvC scope cl C X.env) fp) tg js g) (ht : ∀ (s : Shared) (H : Hp) (C : Addr) (cl : List (Str × Addr)) (fp : List Addr), PTsM (X.blk s H scope (compEnvC scope cl C X.env) fp) ifs tt)
    (he : ∀ (s : Shared) (H : Hp) (C : Addr) (cl : List (Str × Addr)) (fp : List Addr), PM (X.blk s H scope (compEnvC scope cl C X.env) fp) elt me) (hj : ∀ j ∈ js, j ∈ own.map (·.2) := by decide) (hs : ∀ x, foldedSetIterable iter X.env x = pure x := by intro _; rfl) :
    PF X (.ListComp elt [⟨tg, iter, ifs, 0⟩] scope pos) (mLcF mi (own.map (·.2)) g tt me) :=
  PE_imp (pe_lc hc hN hi ok hg ht he hs) fun _ _ _ h => tLcF hj h
/-! x = a made tree -/
def sSetF (i : Nat) (m : EM) : SM := fun env => (m env).map fun t => .nx (env.set i (some t))
theorem tSetF {K : PySem.W.Frag} {i : Nat} {m : EM} {D : Ends} {σ : L2.St} {H : Hp} (h : tS K (sSetF i m) D σ H) : tF K m σ H fun x H1 => gName i x σ H1 D.nx := by
  obtain ⟨G0, R, env, ⟨G, F, rel, hR, x0⟩, o, e, g⟩ := h
  simp only [sSetF, Option.map_eq_some_iff] at e
  obtain ⟨t, e1, rfl⟩ := e
  refine ⟨G, env, F, rel, t, e1, fun v H' G' F' x r nd fr => g _ H' ?_⟩
  have rel' := rel.ext x
  obtain ⟨F2, h1, h2, h3⟩ := ES.put r i rel'.es
  have dj : ∀ a ∈ F', a ∉ F := fun a ha z => (rel.fr a z).2 (fr a ha).2
  refine ⟨G', F2, ⟨h1, h3 rel.nd nd dj, fun a ha => ⟨?_, h1.alive a ha⟩, x.gh⟩, fun a ha => ?_, x0.trans x⟩
  · rcases h2 a ha with z | z
    · exact (fr a z).1
    · exact (rel'.fr a z).1
  · rcases h2 a ha with z | z
    · exact x0.hh.free (fr a z).2
    · exact hR a z
theorem psm_setF {i : Nat} {x : Str} {pos' : Pos} (hN : X.N.Nodup) (he : PF X e me) (hi : X.N[i]? = some x := by rfl) (hx : Loc X.env.scope x := by first | exact Or.inl rfl | exact Or.inr rfl) (hs : swapsWith e (some (.Name x pos')) pos.line X.env = pure false := by rfl) (hf : X.fn x = true ∨ X.env.scope.names.lookup x = some .local := by first | exact .inl rfl | exact .inr rfl | assumption) :
    PSM X (.Assign [.Name x pos'] e pos) (sSetF i me) := PS_imp (ps_set hN hi hx he hs hf) fun D σ H h => tSetF h
theorem psm_setLcF {i : Nat} {y : Str} {py spos : Pos} {elt tg iter : Expr} {ifs : List Expr} {scope : Scope} {own : List (Str × Nat)} {fz : Bool} {mi : En → Option (List D)} {js : List Nat} {g : D → En → Option En} {tt : En → Option Bool} {me : EM} (hc : X.calm = true) (hN : X.N.Nodup)
    (hi : PIM X tg iter fz mi) (ok : BlkOk X.N X.env.scope scope own)
    (hg : ∀ (s : Shared) (H : Hp) (C : Addr) (cl : List (Str × Addr)) (fp : List Addr), GM (X.blk s H scope (compEnvC scope cl C X.env) fp) tg js g) (ht : ∀ (s : Shared) (H : Hp) (C : Addr) (cl : List (Str × Addr)) (fp : List Addr), PTsM (X.blk s H scope (compEnvC scope cl C X.env) fp) ifs tt)
    (he : ∀ (s : Shared) (H : Hp) (C : Addr) (cl : List (Str × Addr)) (fp : List Addr), PM (X.blk s H scope (compEnvC scope cl C X.env) fp) elt me)
    (hsw : swapsWith (.ListComp elt [⟨tg, iter, ifs, 0⟩] scope pos) (some (.Name y py)) spos.line X.env = pure true) (hy : X.N[i]? = some y := by rfl) (hyl : X.env.scope.names.lookup y = some .local := by rfl)
    (hj : ∀ j ∈ js, j ∈ own.map (·.2) := by decide) (hs : ∀ x, foldedSetIterable iter X.env x = pure x := by intro _; rfl) :
    PSM X (.Assign [.Name y py] (.ListComp elt [⟨tg, iter, ifs, 0⟩] scope pos) spos) (sSetF i (mLcF mi (own.map (·.2)) g tt me)) :=
  PS_imp (ps_setLc hc hN hy hyl hsw hi ok hg ht he hs) fun D σ H h => tLcF hj (tSetF h)
end
end M
/-! M9: comprehensions of owned elements; defs, calls, the law's end. -/
namespace M
open PySem PySem.Spec PyProof.Rows L2

def lcRunT (g : D → En → Option En) (tt : En → Option Bool) (me : EM) (env : En) : List D → Option (List T)
  | [] => some []
  | d :: r => (g d env).bind fun e => (tt e).bind fun b => if b then (me e).bind fun t => (lcRunT g tt me env r).map fun ys => t :: ys else lcRunT g tt me env r
def mLcT (mi : En → Option (List D)) (vs : List Nat) (g : D → En → Option En) (tt : En → Option Bool) (me : EM) : EM := fun env => (mi env).bind fun ds => (lcRunT g tt me (wipeE env vs) ds).bind fun out => if out.length ≤ LIM then some (.ml out) else none
theorem tLcT {K : PySem.W.Frag} {fz : Bool} {mi : En → Option (List D)} {js vs : List Nat} {g : D → En → Option En} {tt : En → Option Bool} {me : EM} (hj : ∀ j ∈ js, j ∈ vs) {σ : L2.St} {H : Hp} {Q : VK} (h : tF K (mLcT mi vs g tt me) σ H Q) :
    tLc (iM K fz mi) (gM K js g) (tTM K tt) (tF K me) vs σ H Q := by
  obtain ⟨G, env, F, rel, t, e, q⟩ := h
  simp only [mLcT, Option.bind_eq_some_iff] at e
  obtain ⟨ds, e1, out, e2, e3⟩ := e
  split at e3
  · rename_i hz
    cases e3
    refine ⟨G, env, F, rel, ds, e1, fun J H1 G1 x1 wk => fun D nD => ?_⟩
    refine ⟨fun i m H2 => m = ds.length - i ∧ i ≤ ds.length ∧ ∃ G2 acc o1 o2 Fa, Ext G1 H1 G2 H2 ∧ G2 D = none ∧ H2 D = some (.lst acc) ∧ TRs K G2 H2 o1 acc Fa ∧ Fa.Nodup ∧ (∀ a ∈ Fa, G2 a = none ∧ H1 a = none ∧ a ≠ D) ∧ lcRunT g tt me (wipeE env vs) (ds.drop i) = some o2 ∧ out = o1 ++ o2, ?_, ?_⟩
    · refine ⟨ds.length, rfl, Nat.zero_le _, G1, [], [], out, [], Ext.fresh x1.gh nD, x1.gh.free nD, upd_same, .nil, .nil, (fun _ z => nomatch z), by simpa using e2, rfl⟩
    · rintro i m H2 ⟨rfl, hi, G2, acc, o1, o2, Fa, x2, gD, hD, ra, na, fa, e3, eo⟩
      have sB : Same (if fz then G1 else H1) H2 := by
        cases fz with
        | true => exact x2.gg.trans x2.gh
        | false => exact x2.hh
      by_cases hlt : i < ds.length
      · have ed : ds.drop i = ds[i] :: ds.drop (i + 1) := List.drop_eq_getElem_cons hlt
        rw [ed] at e3
        simp only [lcRunT, Option.bind_eq_some_iff] at e3
        obtain ⟨env1, e4, b, e5, e6⟩ := e3
        refine .inr ⟨wk.go i H2 sB hlt, fun H' => (i + 1 ≤ ds.length ∧ ∃ G2 acc o1 o2 Fa, Ext G1 H1 G2 H' ∧ G2 D = none ∧ H' D = some (.lst acc) ∧ TRs K G2 H' o1 acc Fa ∧ Fa.Nodup ∧ (∀ a ∈ Fa, G2 a = none ∧ H1 a = none ∧ a ≠ D) ∧ lcRunT g tt me (wipeE env vs) (ds.drop (i + 1)) = some o2 ∧ out = o1 ++ o2), fun H' w => ⟨ds.length - (i + 1), by omega, rfl, w.1, w.2⟩, fun x H3 y => ?_⟩
        obtain ⟨G3, x3, rd⟩ := wk.yld i H2 x H3 G2 ds[i] sB x2.gg x2.gh y (List.getElem?_eq_getElem hlt)
        have rel3 := (rel.ext x1).ext (x2.trans x3)
        obtain ⟨Fw, relw⟩ := rel3.wipe vs
        refine ⟨G3, wipeE env vs, Fw, ds[i], relw, rd, env1, e4, fun σ2 F2 rel4 _ ou => ⟨ou.wipe hj |>.trans ?_, ?_⟩⟩
        · apply List.ext_getElem?
          intro k
          rw [wipe_get, wipe_get]
          by_cases hk : k ∈ vs
          · rw [if_pos hk, if_pos hk, wipe_length]
          · rw [if_neg hk, if_neg hk]
        · refine ⟨G3, env1, F2, rel4, b, e5, fun H4 G4 x4 => ?_⟩
          have hD3 : H3 D = some (.lst acc) := x3.hh _ _ hD
          have g3 : G3 D = none := x3.not gD (by rw [hD]; exact Option.some_ne_none _)
          have g4 : G4 D = none := x4.not g3 (by rw [hD3]; exact Option.some_ne_none _)
          have hD4 : H4 D = some (.lst acc) := x4.hh _ _ hD3
          have x34 := x3.trans x4
          have ra4 := ra.keep x34.gg (Keep.of (F := Fa) x34.hh)
          have fa4 : ∀ a ∈ Fa, G4 a = none ∧ H1 a = none ∧ a ≠ D := fun a ha => ⟨x34.not (fa a ha).1 (ra.alive a ha), (fa a ha).2⟩
          cases b with
          | false =>
            rw [if_neg Bool.false_ne_true] at e6
            exact iteF ⟨hlt, G4, acc, o1, o2, Fa, (x2.trans x3).trans x4, g4, hD4, ra4, na, fa4, e6, eo⟩
          | true =>
            rw [if_pos rfl] at e6
            simp only [Option.bind_eq_some_iff, Option.map_eq_some_iff] at e6
            obtain ⟨t, e7, ys, e9, rfl⟩ := e6
            refine iteT ⟨G4, env1, F2, rel4.ext x4, t, e7, fun v H5 G5 F5 x5 r5 n5 f5 => ?_⟩
            have hD5 : H5 D = some (.lst acc) := x5.hh _ _ hD4
            have g5 : G5 D = none := x5.not g4 (by rw [hD4]; exact Option.some_ne_none _)
            have x25 := ((x2.trans x3).trans x4).trans x5
            have ra5 := ra4.keep x5.gg (Keep.of (F := Fa) x5.hh)
            have kp : ∀ L : List Addr, D ∉ L → Keep L H5 (upd H5 D (.lst (acc ++ [v]))) := fun L hL b hb o z => by
              rw [upd_ne (fun e => by subst e; exact hL hb)]; exact z
            have dF : D ∉ F5 := fun z => by
              have := (f5 D z).2
              rw [hD4] at this
              cases this
            refine ⟨acc, hD5, ?_, hlt, G5, acc ++ [v], o1 ++ [t], ys, Fa ++ (F5 ++ []), ⟨x25.gg, fun a o z => ?_, fun a o z => ?_, x25.fr⟩, g5, upd_same,
              (ra5.keep (Same.refl _) (kp Fa fun z => (fa D z).2.2 rfl)).append (.cons (r5.keep (Same.refl _) (kp F5 dF)) .nil), ?_, fun a ha => ?_, e9, by rw [eo, List.append_assoc]; rfl⟩
            · have l1 := ra5.len
              rw [eo] at hz
              simp only [List.length_append, List.length_cons] at hz
              have := LIM_line
              omega
            · have : a ≠ D := ne_of_none z nD
              rw [upd_ne this]
              exact x25.hh a o z
            · have : a ≠ D := ne_of_none z g5
              rw [upd_ne this]
              exact x25.gh a o z
            · rw [List.append_nil]
              exact List.nodup_append.mpr ⟨na, n5, fun a ha b hb z => by subst z; exact ra4.alive a ha (f5 a hb).2⟩
            · rw [List.append_nil] at ha
              rcases List.mem_append.mp ha with z | z
              · exact ⟨x5.not (fa4 a z).1 (ra4.alive a z), (fa a z).2⟩
              · refine ⟨(f5 a z).1, ?_, fun w => dF (w ▸ z)⟩
                exact ((x2.trans x3).trans x4).hh.free (f5 a z).2
      · have hi' : i = ds.length := by omega
        subst hi'
        rw [List.drop_length] at e3
        cases e3
        rw [List.append_nil] at eo
        subst eo
        refine .inl ⟨wk.stop _ H2 sB (Nat.le_refl _), q (.ref D) H2 G2 (D :: Fa) (x1.trans x2) (.ml hD ra) (List.nodup_cons.mpr ⟨fun z => (fa D z).2.2 rfl, na⟩) fun a ha => ?_⟩
        rcases List.mem_cons.mp ha with z | z
        · subst z; exact ⟨gD, x1.hh.free nD⟩
        · exact ⟨(fa a z).1, x1.hh.free (fa a z).2.1⟩
  · cases e3
section
variable {X : Cx} {pos : Pos}
theorem psm_setLcT {i : Nat} {y : Str} {py spos : Pos} {elt tg iter : Expr} {ifs : List Expr} {scope : Scope} {own : List (Str × Nat)} {fz : Bool} {mi : En → Option (List D)} {js : List Nat} {g : D → En → Option En} {tt : En → Option Bool} {me : EM} (hc : X.calm = true) (hN : X.N.Nodup)
    (hi : PIM X tg iter fz mi) (ok : BlkOk X.N X.env.scope scope own)
    (hg : ∀ (s : Shared) (H : Hp) (C : Addr) (cl : List (Str × Addr)) (fp : List Addr), GM (X.blk s H scope (compEnvC scope cl C X.env) fp) tg js g) (ht : ∀ (s : Shared) (H : Hp) (C : Addr) (cl : List (Str × Addr)) (fp : List Addr), PTsM (X.blk s H scope (compEnvC scope cl C X.env) fp) ifs tt)
    (he : ∀ (s : Shared) (H : Hp) (C : Addr) (cl : List (Str × Addr)) (fp : List Addr), PF (X.blk s H scope (compEnvC scope cl C X.env) fp) elt me)
    (hsw : swapsWith (.ListComp elt [⟨tg, iter, ifs, 0⟩] scope pos) (some (.Name y py)) spos.line X.env = pure true) (hy : X.N[i]? = some y := by rfl) (hyl : X.env.scope.names.lookup y = some .local := by rfl)
    (hj : ∀ j ∈ js, j ∈ own.map (·.2) := by decide) (hs : ∀ x, foldedSetIterable iter X.env x = pure x := by intro _; rfl) :
    PSM X (.Assign [.Name y py] (.ListComp elt [⟨tg, iter, ifs, 0⟩] scope pos) spos) (sSetF i (mLcT mi (own.map (·.2)) g tt me)) :=
  PS_imp (ps_setLc hc hN hy hyl hsw hi ok hg ht he hs) fun D σ H h => tLcT hj (tSetF h)
theorem pf_lcT {elt tg iter : Expr} {ifs : List Expr} {scope : Scope} {own : List (Str × Nat)} {fz : Bool} {mi : En → Option (List D)} {js : List Nat} {g : D → En → Option En} {tt : En → Option Bool} {me : EM} (hc : X.calm = true) (hN : X.N.Nodup) (hi : PIM X tg iter fz mi) (ok : BlkOk X.N X.env.scope scope own)
    (hg : ∀ (s : Shared) (H : Hp) (C : Addr) (cl : List (Str × Addr)) (fp : List Addr), GM (X.blk s H scope (compEnvC scope cl C X.env) fp) tg js g) (ht : ∀ (s : Shared) (H : Hp) (C : Addr) (cl : List (Str × Addr)) (fp : List Addr), PTsM (X.blk s H scope (compEnvC scope cl C X.env) fp) ifs tt)
    (he : ∀ (s : Shared) (H : Hp) (C : Addr) (cl : List (Str × Addr)) (fp : List Addr), PF (X.blk s H scope (compEnvC scope cl C X.env) fp) elt me) (hj : ∀ j ∈ js, j ∈ own.map (·.2) := by decide) (hs : ∀ x, foldedSetIterable iter X.env x = pure x := by intro _; rfl) :
    PF X (.ListComp elt [⟨tg, iter, ifs, 0⟩] scope pos) (mLcT mi (own.map (·.2)) g tt me) :=
  PE_imp (pe_lc hc hN hi ok hg ht he hs) fun _ _ _ h => tLcT hj h
end

/-! ### defs -/
inductive PArgs (K : PySem.W.Frag) (G H : Hp) : List T → List V → Prop
  | nil : PArgs K G H [] []
  | cons {t : T} {v : V} {ts : List T} {vs : List V} : TR K G H t v [] → PArgs K G H ts vs → PArgs K G H (t :: ts) (v :: vs)
theorem PArgs.es {K : PySem.W.Frag} {G H : Hp} : ∀ {ts : List T} {vs : List V} (n : Nat), PArgs K G H ts vs → ES K G H (ts.map some ++ List.replicate n none) (vs.map some ++ List.replicate n none) []
  | _, _, 0, .nil => .nil
  | _, _, n + 1, .nil => .no (PArgs.es n .nil)
  | _, _, n, .cons h r => by
    have q := ES.so h (PArgs.es n r)
    exact q
theorem PArgs.length {K : PySem.W.Frag} {G H : Hp} : ∀ {ts : List T} {vs : List V}, PArgs K G H ts vs → ts.length = vs.length
  | _, _, .nil => rfl
  | _, _, .cons _ r => by simp [r.length]
def startE (n : Nat) (ts : List T) : En := ts.map some ++ List.replicate (n - ts.length) none
def runFn (n : Nat) (body : SM) : List T → Option T := fun ts => (body (startE n ts)).bind fun o => match o with
  | .rt t => some t
  | .nx _ => some (.p .none)
  | _ => none
def spT (K : PySem.W.Frag) (np : Nat) (fn : List T → Option T) : Sp := fun vs H Q _ => vs.length = np ∧ ∃ G ts, Same G H ∧ PArgs K G H ts vs ∧ ∃ t, fn ts = some t ∧ ∀ v H', RR K G H t v H' → Q v H'
theorem fn_ok {P : Program} {w : World} {K : PySem.W.Frag} {mg : Str → Option Value} {base : Heap} {x qual : Str} {st : Stmt} {f : Addr} {fd : FuncData} {N ps : List Str} {k : Nat} {body : SM} (F : Fun K x qual st f fd) (S : FnScope N ps (defScope st))
    (hb : ∀ (cdv : Value) (A : Around) (outer : List Env) (s : Shared) (H : Hp) (E : XK), Room k (A.deeper (envOfC qual (defScope st) s.heap.objs.size f cdv)) → PSsM (cxOf CX0 P w K mg base N qual (defScope st) f cdv A outer s H E).nox (defBody st) body) :
    FnOk P w K mg base CX0 (k + 1) f fd ps (spT K ps.length (runFn N.length body)) := by
  refine F.ok S (fun vs H Q E h => h.1) fun cdv A outer s H vs Q E hr h => ⟨_, hb cdv A outer s H E hr, ?_⟩
  obtain ⟨hl, G, ts, sg, pa, t, e, q⟩ := h
  simp only [runFn, Option.bind_eq_some_iff] at e
  obtain ⟨o, e1, e2⟩ := e
  have es := pa.es (N.length - vs.length)
  refine ⟨G, H, startE N.length ts, ⟨G, [], ⟨?_, .nil, (fun _ z => nomatch z), sg⟩, (fun _ z => nomatch z), Ext.refl sg⟩, o, e1, ?_⟩
  · unfold startE L2.start
    rw [pa.length]
    exact es
  · cases o with
    | nx e =>
      cases e2
      rintro σ' H' ⟨G', F', rel, _, x⟩
      exact q _ H' ⟨G', [], x, .p .non, .nil, fun _ z => nomatch z⟩
    | rt u => cases e2; exact fun v H' r => q v H' r
    | bk e => cases e2
    | ct e => cases e2
/-! ### calls -/
def T.frozen : T → Bool
  | .p _ => true
  | .sc _ => true
  | _ => false
def T.view : T → Option T
  | .sc ns => some (.sc ns)
  | t => t.snap.map T.p
def views : List T → Option (List T)
  | [] => some []
  | t :: r => t.view.bind fun u => (views r).map fun us => u :: us
def callT (fn : List T → Option T) (ts : List T) : Option T :=
  if ts.all T.frozen then (fn ts).bind fun t => t.snap.map T.p
  else (views ts).bind fun us => (fn us).bind fun t => t.pure?.bind fun d => if flatD d then some (.p d) else none
def callF (fn : List T → Option T) (ts : List T) : Option T := if ts.all T.frozen then fn ts else none
theorem Args.frozen {K : PySem.W.Frag} {G H : Hp} : ∀ {ts : List T} {vs : List V}, Args K G H ts vs → ts.all T.frozen = true → PArgs K G H ts vs
  | _, _, .nil, _ => .nil
  | _, _, .cons (t := t) h r, e => by
    rw [List.all_cons, Bool.and_eq_true] at e
    refine .cons ?_ (r.frozen e.2)
    cases h with
    | p h => exact .p h
    | sc h => exact .sc h
    | _ => simp [T.frozen] at e
theorem Args.views {K : PySem.W.Frag} {G H : Hp} (s : Same G H) : ∀ {ts us : List T} {vs : List V}, Args K G H ts vs → M.views ts = some us → PArgs K H H us vs
  | _, _, _, .nil, e => by simp [M.views] at e; subst e; exact .nil
  | _, _, _, .cons (t := t) h r, e => by
    simp only [M.views, Option.bind_eq_some_iff, Option.map_eq_some_iff] at e
    obtain ⟨u, e1, us, e2, rfl⟩ := e
    refine .cons ?_ (r.views s e2)
    cases h with
    | sc h => simp [T.view] at e1; subst e1; exact .sc (s.seq h)
    | p h =>
      simp [T.view, T.snap] at e1; subst e1; exact .p (h.mono s)
    | ml h r =>
      simp only [T.view, Option.map_eq_some_iff] at e1
      obtain ⟨d, e3, rfl⟩ := e1
      exact .p ((TR.ml h r).live s e3)
    | tp h r =>
      simp only [T.view, Option.map_eq_some_iff] at e1
      obtain ⟨d, e3, rfl⟩ := e1
      exact .p ((TR.tp h r).live s e3)
    | md h r =>
      simp only [T.view, Option.map_eq_some_iff] at e1
      obtain ⟨d, e3, rfl⟩ := e1
      exact .p ((TR.md (G := G) h r).live s e3)
    | mk h r =>
      simp only [T.view, Option.map_eq_some_iff] at e1
      obtain ⟨d, e3, rfl⟩ := e1
      simp [T.snap] at e3
    | ob h h' r =>
      simp only [T.view, Option.map_eq_some_iff] at e1
      obtain ⟨d, e3, rfl⟩ := e1
      simp [T.snap] at e3
    | rf r =>
      simp only [T.view, Option.map_eq_some_iff] at e1
      obtain ⟨d, e3, rfl⟩ := e1
      exact .p ((TR.rf r).live s e3)
theorem TR.freeze {K : PySem.W.Frag} {G H : Hp} {t : T} {v : V} {F : List Addr} {d : D} (r : TR K G H t v F) (s : Same G H) (fr : ∀ a ∈ F, G a = none) (e : t.snap = some d) : ∃ G', Same G G' ∧ Same G' H ∧ Rp K G' v d ∧ ∀ a, G' a ≠ none → G a ≠ none ∨ a ∈ F := by
  refine ⟨fun a => if a ∈ F then H a else G a, fun a u z => ?_, fun a u z => ?_, ?_, fun a z => ?_⟩
  · show (if a ∈ F then H a else G a) = some u
    by_cases ha : a ∈ F
    · rw [fr a ha] at z; cases z
    · rw [if_neg ha]; exact z
  · have z' : (if a ∈ F then H a else G a) = some u := z
    by_cases ha : a ∈ F
    · rw [if_pos ha] at z'; exact z'
    · rw [if_neg ha] at z'; exact s a u z'
  · refine r.data (fun a u z => ?_) (fun a ha u z => ?_) e
    · show (if a ∈ F then H a else G a) = some u
      by_cases ha : a ∈ F
      · rw [fr a ha] at z; cases z
      · rw [if_neg ha]; exact z
    · show (if a ∈ F then H a else G a) = some u
      rw [if_pos ha]; exact z
  · have z' : (if a ∈ F then H a else G a) ≠ none := z
    by_cases ha : a ∈ F
    · exact .inr ha
    · rw [if_neg ha] at z'; exact .inl z'
section
variable {X : Cx} {k np : Nat} {f : Addr} {fd : FuncData} {ps : List Str} {fn : List T → Option T} {x : Str} {e : Expr} {es : List Expr} {ms : En → Option (List T)} {p pos : Pos}
theorem tCallM {K : PySem.W.Frag} {E : XK} (hnp : ∀ env ts, ms env = some ts → ts.length = np) {σ : L2.St} {H : Hp} {Q : VK} (h : tM K (mCall (callT fn) ms) σ H Q) : tCall (spT K np fn) [] E (tAM K ms) σ H Q := by
  obtain ⟨G, env, F, rel, t, e1, q⟩ := h
  simp only [mCall, Option.bind_eq_some_iff] at e1
  obtain ⟨ts, e2, e3⟩ := e1
  refine ⟨G, env, F, rel, ts, e2, fun vs H1 G1 x1 r1 => ?_⟩
  show spT K np fn (vs ++ []) H1 Q E
  rw [List.append_nil]
  refine ⟨by rw [← r1.length]; exact hnp env ts e2, ?_⟩
  unfold callT at e3
  split at e3
  · rename_i hf
    simp only [Option.bind_eq_some_iff, Option.map_eq_some_iff] at e3
    obtain ⟨u, e4, d, e5, rfl⟩ := e3
    refine ⟨G1, ts, x1.gh, r1.frozen hf, u, e4, fun v H' rr => ?_⟩
    obtain ⟨G2, F2, x2, r2, n2, f2⟩ := rr
    obtain ⟨G3, s1, s2, rp, fr⟩ := r2.freeze x2.gh (fun a ha => (f2 a ha).1) e5
    refine q v H' G3 [] (x1.trans ⟨x2.gg.trans s1, x2.hh, s2, fun a z => ?_⟩) (.p rp)
    rcases fr a z with w | w
    · exact x2.fr a w
    · exact .inr (f2 a w).2
  · simp only [Option.bind_eq_some_iff] at e3
    obtain ⟨us, e4, u, e5, d, e6, e7⟩ := e3
    split at e7
    · rename_i hd
      cases e7
      refine ⟨H1, us, Same.refl _, r1.views x1.gh e4, u, e5, fun v H' rr => ?_⟩
      obtain ⟨G2, F2, x2, r2, n2, f2⟩ := rr
      have rp := r2.of_pure? e6
      refine q v H' G1 [] (x1.trans ⟨Same.refl _, x2.hh, x1.gh.trans x2.hh, fun a z => .inl z⟩) (.p ?_)
      cases rp with
      | non => exact .non
      | bl b => exact .bl b
      | int i => exact .int i
      | str y => exact .str y
      | lst _ _ => simp [flatD] at hd
      | tup _ _ => simp [flatD] at hd
      | dct _ _ => simp [flatD] at hd
    · cases e7
theorem pm_call (F : FnOk X.prog X.w X.K X.mg X.base CX0 k f fd ps (spT X.K np fn)) (hr : Room k X.A) (hg : Gl X x) (hm : X.mg x = some (.ref f)) (hk : PySem.W.keepIn X.K (.ref f) = true) (hb : Binds X.K fd ps []) (ha : PAM X (e :: es) ms)
    (hnp : ∀ env ts, ms env = some ts → ts.length = np)
    (hd : (x == ("__debug__" : Str)) = false := by decide) (he : starEach (e :: es) X.env = (false, eval e X.env) :: starEach es X.env := by rfl) (hpl : (backTo pos (starEach es X.env)).any (·.1) = false := by rfl) :
    PM X (.Call (.Name x p) (e :: es) [] pos) (mCall (callT fn) ms) :=
  PE_imp (pe_call F hr hg hm hk hb .nil pass0 ha hd he hpl) fun _ _ _ h => tCallM hnp h
/-- .. its tree taken as it is made -/
theorem pf_call (F : FnOk X.prog X.w X.K X.mg X.base CX0 k f fd ps (spT X.K np fn)) (hr : Room k X.A) (hg : Gl X x) (hm : X.mg x = some (.ref f)) (hk : PySem.W.keepIn X.K (.ref f) = true) (hb : Binds X.K fd ps []) (ha : PAM X (e :: es) ms)
    (hnp : ∀ env ts, ms env = some ts → ts.length = np)
    (hd : (x == ("__debug__" : Str)) = false := by decide) (he : starEach (e :: es) X.env = (false, eval e X.env) :: starEach es X.env := by rfl) (hpl : (backTo pos (starEach es X.env)).any (·.1) = false := by rfl) :
    PF X (.Call (.Name x p) (e :: es) [] pos) (mCall (callF fn) ms) := by
  refine PE_imp (pe_call F hr hg hm hk hb .nil pass0 ha hd he hpl) fun σ H Q h => ?_
  obtain ⟨G, env, F, rel, t, e1, q⟩ := h
  simp only [mCall, Option.bind_eq_some_iff] at e1
  obtain ⟨ts, e2, e3⟩ := e1
  refine ⟨G, env, F, rel, ts, e2, fun vs H1 G1 x1 r1 => ?_⟩
  show spT X.K np fn (vs ++ []) H1 Q _
  rw [List.append_nil]
  refine ⟨by rw [← r1.length]; exact hnp env ts e2, ?_⟩
  unfold callF at e3
  split at e3
  · rename_i hf
    refine ⟨G1, ts, x1.gh, r1.frozen hf, t, e3, fun v H' rr => ?_⟩
    obtain ⟨G2, F2, x2, r2, n2, f2⟩ := rr
    exact q v H' G2 F2 (x1.trans x2) r2 n2 fun a ha => ⟨(f2 a ha).1, x1.hh.free (f2 a ha).2⟩
  · cases e3
end
theorem len1 {a : EM} : ∀ env ts, aCons a aNil env = some ts → ts.length = 1 := fun env ts e => by
  simp only [aCons, aNil, Option.bind_eq_some_iff, Option.map_eq_some_iff] at e
  obtain ⟨_, _, _, e, rfl⟩ := e
  cases e; rfl
theorem lenS {a : EM} {ms : En → Option (List T)} {n : Nat} (h : ∀ env ts, ms env = some ts → ts.length = n) : ∀ env ts, aCons a ms env = some ts → ts.length = n + 1 := fun env ts e => by
  simp only [aCons, Option.bind_eq_some_iff, Option.map_eq_some_iff] at e
  obtain ⟨_, _, _, e, rfl⟩ := e
  simp [h _ _ e]
/-! a value returned as the tree that it owns -/
section
variable {X : Cx} {e : Expr} {me : EM} {pos : Pos}
def sRetF (m : EM) : SM := fun env => (m env).map .rt
theorem psm_retF (he : PF X e me) : PSM X (.Return (some e) pos) (sRetF me) := by
  refine PS_imp (ps_ret he) fun D σ H h => ?_
  obtain ⟨G0, R, env, ⟨G, F, rel, hR, x0⟩, o, e, g⟩ := h
  simp only [sRetF, Option.map_eq_some_iff] at e
  obtain ⟨t, e1, rfl⟩ := e
  exact ⟨G, env, F, rel, t, e1, fun v H' G' F' x r nd fr => g v H' ⟨G', F', x0.trans x, r, nd, fun a ha => ⟨(fr a ha).1, x0.hh.free (fr a ha).2⟩⟩⟩
/-- return x, x owned -/
def sRetV (i : Nat) : SM := fun env => (slotT env i).map .rt
theorem psm_retV (i : Nat) {x : Str} {p : Pos} (hN : X.N[i]? = some x := by rfl) (hv : Vis X.env.scope x := by first | exact Or.inl rfl | exact Or.inr (Or.inl rfl) | exact Or.inr (Or.inr rfl)) (hd : (x == ("__debug__" : Str)) = false := by decide)
    (hcd : (x == ("__classdict__" : Str)) = false := by decide) : PSM X (.Return (some (.Name x p)) pos) (sRetV i) := by
  refine PS_imp (ps_ret (pe_var hN hv hd hcd)) fun D σ H h => ?_
  obtain ⟨G0, R, env, ⟨G, F, rel, hR, x0⟩, o, e, g⟩ := h
  simp only [sRetV, Option.map_eq_some_iff] at e
  obtain ⟨t, e1, rfl⟩ := e
  obtain ⟨v, F1, Fa, Fb, h1, h2, h3, _⟩ := rel.es.split (slotT_eq e1)
  have m1 : ∀ a ∈ F1, a ∈ F := fun a ha => by rw [h3]; exact List.mem_append_right _ (List.mem_append_left _ ha)
  refine ⟨v, h1, g v H ⟨G, F1, x0, h2, ?_, fun a ha => ⟨(rel.fr a (m1 a ha)).1, hR a (m1 a ha)⟩⟩⟩
  have nd := rel.nd
  rw [h3] at nd
  exact (List.nodup_append.mp (List.nodup_append.mp nd).2.1).1
end
/-! ### the law -/
def spLaw (n : Nat) (K : PySem.W.Frag) : Sp := fun vs H Q _ => ∃ (a : Addr) (ns : List Int), vs = [.ref a] ∧ SqL K H a (ns.map V.int) ∧ ns.length ≤ n ∧ ∀ H', Q (.bl true) H'
theorem law_ok {P : Program} {w : World} {K : PySem.W.Frag} {mg : Str → Option Value} {base : Heap} {k n : Nat} {f : Addr} {fd : FuncData} {ps : List Str} {fn : List T → Option T} (F : FnOk P w K mg base CX0 k f fd ps (spT K 1 fn))
    (h : ∀ ns : List Int, ns.length ≤ n → fn [.sc ns] = some (.p (.bool true))) : FnOk P w K mg base CX0 k f fd ps (spLaw n K) := by
  refine F.imp fun vs H Q E hq => ?_
  obtain ⟨a, ns, rfl, hs, hn, q⟩ := hq
  refine ⟨rfl, H, [.sc ns], Same.refl _, .cons (.sc hs) .nil, _, h ns hn, fun v H' rr => ?_⟩
  obtain ⟨G, F, x, r, _⟩ := rr
  cases r.pure
  exact q H'
end M
/-! M10: names of built-ins, fuel. -/
namespace M
open PySem PySem.Spec PyProof.Rows L2
def FUEL : Nat := 1000000
theorem bt_len : bootBuiltins "len" = some (.builtin "len") := by decide +kernel
theorem bt_max : bootBuiltins "max" = some (.builtin "max") := by decide +kernel
theorem bt_min : bootBuiltins "min" = some (.builtin "min") := by decide +kernel
theorem bt_sum : bootBuiltins "sum" = some (.builtin "sum") := by decide +kernel
theorem bt_all : bootBuiltins "all" = some (.builtin "all") := by decide +kernel
theorem bt_any : bootBuiltins "any" = some (.builtin "any") := by decide +kernel
theorem bt_sorted : bootBuiltins "sorted" = some (.builtin "sorted") := by decide +kernel
theorem bt_abs : bootBuiltins "abs" = some (.builtin "abs") := by decide +kernel
theorem bt_list : bootBuiltins "list" = some (.type "list") := by decide +kernel
theorem bt_tuple : bootBuiltins "tuple" = some (.type "tuple") := by decide +kernel
theorem bt_int : bootBuiltins "int" = some (.type "int") := by decide +kernel
theorem bt_str : bootBuiltins "str" = some (.type "str") := by decide +kernel
theorem bt_bool : bootBuiltins "bool" = some (.type "bool") := by decide +kernel
end M
/-! M11: evaluation of mirrors by simp. -/
namespace M
open PySem PySem.Spec PyProof.Rows L2
section
variable {a b c : EM} {sa sb : SM} {env : En} {ba bb : En → Option Bool} {as : En → Option (List T)}
@[simp] theorem ev_sCons : sCons sa sb env = (sa env).bind fun o => match o with | .nx e => sb e | o => some o := rfl
@[simp] theorem ev_sNil : sNil env = some (.nx env) := rfl
@[simp] theorem ev_sPass : sPass env = some (.nx env) := rfl
@[simp] theorem ev_sBreak : sBreak env = some (.bk env) := rfl
@[simp] theorem ev_sContinue : sContinue env = some (.ct env) := rfl
@[simp] theorem ev_sIf : sIf ba sa sb env = (ba env).bind fun k => if k then sa env else sb env := rfl
@[simp] theorem ev_sExpr : sExpr a env = (a env).map fun _ => .nx env := rfl
@[simp] theorem ev_sRet : sRet a env = (a env).bind fun t => t.pure?.map fun d => .rt (.p d) := rfl
@[simp] theorem ev_sRetF : sRetF a env = (a env).map .rt := rfl
@[simp] theorem ev_sRetV {i : Nat} : sRetV i env = ((env[i]?).join).map .rt := rfl
@[simp] theorem ev_sSet {i : Nat} : sSet i a env = (a env).bind fun t => t.pure?.map fun d => .nx (env.set i (some (.p d))) := rfl
@[simp] theorem ev_sSetF {i : Nat} : sSetF i a env = (a env).map fun t => .nx (env.set i (some t)) := rfl
@[simp] theorem ev_sAsg {g : D → En → Option En} : sAsg g a env = (a env).bind fun t => t.pure?.bind fun d => (g d env).map .nx := rfl
@[simp] theorem ev_sFor {mi : En → Option (List D)} {g : D → En → Option En} : sFor mi g sa env = (mi env).bind fun ds => forRun g sa ds env := rfl
@[simp] theorem ev_sWhile {n : Nat} : sWhile n ba sa env = whileRun ba sa n env := rfl
@[simp] theorem ev_mVar {i : Nat} : mVar i env = ((env[i]?).join).map T.strip := rfl
@[simp] theorem ev_mC {d : D} : mC d env = some (.p d) := rfl
@[simp] theorem ev_mOp {f : T → T → Option T} : mOp f a b env = (a env).bind fun x => (b env).bind fun y => f x y := rfl
@[simp] theorem ev_mCall {f : List T → Option T} : mCall f as env = (as env).bind f := rfl
@[simp] theorem ev_aNil : aNil env = some [] := rfl
@[simp] theorem ev_aCons : aCons a as env = (a env).bind fun x => (as env).map fun xs => x :: xs := rfl
@[simp] theorem ev_bVal : bVal a env = (a env).bind T.bool? := rfl
@[simp] theorem ev_bOp {f : T → T → Option T} : bOp f a b env = ((a env).bind fun x => (b env).bind fun y => f x y).bind T.bool? := rfl
@[simp] theorem ev_bAnd : bAnd ba bb env = (ba env).bind fun x => if x then bb env else some false := rfl
@[simp] theorem ev_bOr : bOr ba bb env = (ba env).bind fun x => if x then some true else bb env := rfl
@[simp] theorem ev_bNot : bNot ba env = (ba env).map fun x => !x := rfl
@[simp] theorem ev_bYes : bYes env = some true := rfl
@[simp] theorem ev_mAnd : mAnd a b env = (a env).bind fun x => x.bool?.bind fun c => if c then b env else some (.p (.bool false)) := rfl
@[simp] theorem ev_mOr : mOr a b env = (a env).bind fun x => x.bool?.bind fun c => if c then some (.p (.bool true)) else b env := rfl
@[simp] theorem ev_mNot : mNot a env = (a env).bind fun x => x.bool?.map fun c => .p (.bool !c) := rfl
@[simp] theorem ev_mIf : mIf ba a b env = (ba env).bind fun x => if x then a env else b env := rfl
@[simp] theorem ev_mChain {f g : T → T → Option T} : mChain f g a b c env = (a env).bind fun x => (b env).bind fun y => (f x y).bind fun z => z.bool?.bind fun k => if k then (c env).bind fun u => g y u else some (.p (.bool false)) := rfl
@[simp] theorem ev_mTup : mTup as env = (as env).bind fun ts => (pures ts).bind fun ds => if ds.length ≤ LIM then some (.p (.tuple ds)) else none := rfl
@[simp] theorem ev_mLst : mLst as env = (as env).bind fun ts => (pures ts).bind fun ds => if ds.length ≤ LIM then some (.p (.list ds)) else none := rfl
@[simp] theorem ev_mLstF : mLstF as env = (as env).bind fun ts => if ts.length ≤ LIM then some (.ml ts) else none := rfl
@[simp] theorem ev_mPure : mPure a env = (a env).bind fun t => t.pure?.map T.p := rfl
@[simp] theorem ev_mNeg : mNeg a env = (a env).bind fun t => t.int?.map fun i => .p (.int (-i)) := rfl
@[simp] theorem ev_mSlice {lo hi : OM} : mSlice a lo hi env = (a env).bind fun t => (lo env).bind fun x => (hi env).bind fun y => sliceT t x y := rfl
@[simp] theorem ev_oNone : oNone env = some none := rfl
@[simp] theorem ev_oSome : oSome a env = (a env).bind fun t => t.int?.map some := rfl
@[simp] theorem ev_iSeq : iSeq a env = (a env).bind T.fz? := rfl
@[simp] theorem ev_iSeqB : iSeqB a env = (a env).bind T.any? := rfl
@[simp] theorem ev_iRng1 : M.iRng1 a env = (a env).bind fun t => t.int?.bind fun j => if smallI j then some (rangeD 0 j) else none := rfl
@[simp] theorem ev_iRng2 : M.iRng2 a b env = (a env).bind fun t => t.int?.bind fun i => (b env).bind fun u => u.int?.bind fun j => if smallI i ∧ smallI j then some (rangeD i j) else none := rfl
@[simp] theorem ev_iEn : iEn a env = (a env).bind fun t => t.fzl?.map fun xs => enumD 0 xs := rfl
@[simp] theorem ev_gNm {i : Nat} {d : D} : gNm i d env = some (env.set i (some (.p d))) := rfl
@[simp] theorem ev_gNl : gNl [] env = some env := rfl
@[simp] theorem ev_gCn {g : D → En → Option En} {gs : List D → En → Option En} {d : D} {r : List D} : gCn g gs (d :: r) env = (g d env).bind fun e => gs r e := rfl
@[simp] theorem ev_gTp {gs : List D → En → Option En} {ds : List D} : gTp gs (.tuple ds) env = gs ds env := rfl
@[simp] theorem ev_mLc {mi : En → Option (List D)} {vs : List Nat} {g : D → En → Option En} : mLc mi vs g ba a env = (mi env).bind fun ds => (lcRun g ba a (wipeE env vs) ds).bind fun out => if out.length ≤ LIM then some (.p (.list out)) else none := rfl
@[simp] theorem ev_mLcF {mi : En → Option (List D)} {vs : List Nat} {g : D → En → Option En} : mLcF mi vs g ba a env = (mi env).bind fun ds => (lcRun g ba a (wipeE env vs) ds).bind fun out => if out.length ≤ LIM then some (.ml (out.map T.p)) else none := rfl
@[simp] theorem ev_mLcT {mi : En → Option (List D)} {vs : List Nat} {g : D → En → Option En} : mLcT mi vs g ba a env = (mi env).bind fun ds => (lcRunT g ba a (wipeE env vs) ds).bind fun out => if out.length ≤ LIM then some (.ml out) else none := rfl
@[simp] theorem ev_mIsi {n : String} : mIsi n a env = (a env).bind (isiT n) := rfl
@[simp] theorem ev_mListF : mListF a env = (a env).bind fun t => t.any?.map fun ds => .ml (ds.map T.p) := rfl
@[simp] theorem ev_mListR1 : mListR1 a env = (a env).bind fun t => t.int?.bind fun j => if j ≤ 1000000 ∧ -1000000 ≤ j then some (.p (.list (rangeD 0 j))) else none := rfl
@[simp] theorem ev_mRepF : mRepF a b env = (a env).bind fun x => (b env).bind fun y => x.lst?.bind fun xs => y.int?.bind fun j => if -(2 ^ 62) ≤ j ∧ j < 2 ^ 62 ∧ xs.length * j.toNat ≤ LIM then some (.ml ((List.replicate j.toNat xs).flatten.map T.p)) else none := rfl
@[simp] theorem ev_sAppend {mp : PMm} : sAppend mp a env = (a env).bind fun y => y.pure?.bind fun d => (updAt mp (fun ts => if ts.length < LIM then some (ts ++ [.p d]) else none) env).map .nx := rfl
@[simp] theorem ev_sSetIx {mp : PMm} : sSetIx mp a b env = (a env).bind fun k => k.int?.bind fun k => (b env).bind fun y => y.pure?.bind fun d => (updAt mp (fun ts => setN ts k d) env).map .nx := rfl
@[simp] theorem ev_sPopAt {mp : PMm} : sPopAt mp a env = (a env).bind fun k => k.int?.bind fun k => if -(2 ^ 62) ≤ k ∧ k < 2 ^ 62 then (updAt mp (fun ts => (ixN ts.length k).map fun j => ts.eraseIdx j) env).map .nx else none := rfl
@[simp] theorem ev_sInsert {mp : PMm} : sInsert mp a b env = (a env).bind fun k => k.int?.bind fun k => (b env).bind fun y => y.pure?.bind fun d => (updAt mp (fun ts => insN ts k d) env).map .nx := rfl
@[simp] theorem ev_sFrz {i : Nat} : sFrz i sa env = (match env[i]? with | some (some t) => t.snap.bind fun d => sa (env.set i (some (.p d))) | _ => sa env) := rfl
@[simp] theorem ev_pVar {i : Nat} : pVar i env = (slotT env i).map fun _ => (i, []) := rfl
@[simp] theorem ev_slotT {i : Nat} : slotT env i = (env[i]?).join := rfl
@[simp] theorem ev_updAt {mp : PMm} {f : List T → Option (List T)} : updAt mp f env = (mp env).bind fun q => (slotT env q.1).bind fun t => (T.at q.2 t).bind fun u => match u with
  | .ml ts => (f ts).bind fun ts' => (T.put q.2 t (.ml ts')).map fun t' => env.set q.1 (some t')
  | _ => none := rfl
@[simp] theorem ev_pIx {mp : PMm} : pIx mp a env = (mp env).bind fun q => (a env).bind fun k => k.int?.bind fun k => (slotT env q.1).bind fun t => (T.at q.2 t).bind fun u => u.own?.bind fun ts => (ixN ts.length k).map fun j => (q.1, q.2 ++ [.ix j]) := rfl
@[simp] theorem ev_wipe0 : wipeE env [] = env := rfl
@[simp] theorem ev_wipe1 {v : Nat} {vs : List Nat} : wipeE env (v :: vs) = (wipeE env vs).set v none := rfl
end
section
variable {i j : Int} {d e : D} {ds es : List D} {ts us : List T} {x y : Bool} {t u : T}
@[simp] theorem ev_pure : (T.p d).pure? = some d := rfl
@[simp] theorem ev_int : (T.p (.int i)).int? = some i := rfl
@[simp] theorem ev_bool : (T.p (.bool x)).bool? = some x := rfl
@[simp] theorem ev_pures0 : pures [] = some [] := rfl
@[simp] theorem ev_pures1 : pures (t :: ts) = t.pure?.bind fun d => (pures ts).map fun ds => d :: ds := rfl
@[simp] theorem ev_snap : (T.p d).snap = some d := by simp [T.snap]
@[simp] theorem ev_add : addT (.p (.int i)) (.p (.int j)) = some (.p (.int (i + j))) := rfl
@[simp] theorem ev_sub : subT (.p (.int i)) (.p (.int j)) = some (.p (.int (i - j))) := rfl
@[simp] theorem ev_mul : mulT (.p (.int i)) (.p (.int j)) = if mulOk i j then some (.p (.int (i * j))) else none := rfl
@[simp] theorem ev_mod : modT (.p (.int i)) (.p (.int j)) = if j = 0 then none else some (.p (.int (i.fmod j))) := by
  unfold modT iOp
  simp only [ev_int, Option.bind_some]
  split <;> rfl
@[simp] theorem ev_fdiv : fdivT (.p (.int i)) (.p (.int j)) = if divOk j then some (.p (.int (i.fdiv j))) else none := by
  unfold fdivT iOp
  simp only [ev_int, Option.bind_some]
  split <;> rfl
@[simp] theorem ev_pow : powT (.p (.int i)) (.p (.int j)) = if 0 ≤ j ∧ j ≤ 1000000 ∧ i.natAbs < 2 ^ 64 then some (.p (.int (i ^ j.toNat))) else none := by
  unfold powT iOp
  simp only [ev_int, Option.bind_some]
  split <;> rfl
@[simp] theorem ev_lt : ltT (.p (.int i)) (.p (.int j)) = some (.p (.bool (decide (i < j)))) := rfl
@[simp] theorem ev_le : leT (.p (.int i)) (.p (.int j)) = some (.p (.bool (decide (i ≤ j)))) := rfl
@[simp] theorem ev_gt : gtT (.p (.int i)) (.p (.int j)) = some (.p (.bool (decide (j < i)))) := rfl
@[simp] theorem ev_ge : geT (.p (.int i)) (.p (.int j)) = some (.p (.bool (decide (j ≤ i)))) := rfl
theorem shaped_int : SeqAt.shaped (.int i) = true := by simp [SeqAt.shaped, PyData.canLay0, PyData.depth]
theorem shaped_bool : SeqAt.shaped (.bool x) = true := by simp [SeqAt.shaped, PyData.canLay0, PyData.depth]
@[simp] theorem ev_eqi : eqT (.p (.int i)) (.p (.int j)) = some (.p (.bool (decide (i = j)))) := by
  simp [eqT, shaped_int, PyData.eqv, Bool.beq_eq_decide_eq]
@[simp] theorem ev_nei : neT (.p (.int i)) (.p (.int j)) = some (.p (.bool (!decide (i = j)))) := by
  simp [neT, shaped_int, PyData.eqv, Bool.beq_eq_decide_eq]
@[simp] theorem ev_eqb : eqT (.p (.bool x)) (.p (.bool y)) = some (.p (.bool (x == y))) := by
  simp [eqT, shaped_bool, PyData.eqv]
@[simp] theorem ev_neb : neT (.p (.bool x)) (.p (.bool y)) = some (.p (.bool (!(x == y)))) := by
  simp [neT, shaped_bool, PyData.eqv]
@[simp] theorem ev_intT_i : intT [.p (.int i)] = some (.p (.int i)) := rfl
@[simp] theorem ev_intT_b : intT [.p (.bool x)] = some (.p (.int (if x then 1 else 0))) := rfl
@[simp] theorem ev_lenl : lenT [.p (.list ds)] = some (.p (.int ds.length)) := by simp [lenT, T.kids]
@[simp] theorem ev_lent : lenT [.p (.tuple ds)] = some (.p (.int ds.length)) := by simp [lenT, T.kids]
@[simp] theorem ev_lenm : lenT [.ml ts] = some (.p (.int ts.length)) := by simp [lenT, T.kids]
@[simp] theorem ev_lens {ns : List Int} : lenT [.sc ns] = some (.p (.int ns.length)) := by simp [lenT, T.kids]
@[simp] theorem ev_ixl : idxT (.p (.list ds)) (.p (.int i)) = (atI ds i).map T.p := by
  simp only [idxT, ev_int, Option.bind_some, T.kids, atI, List.length_map]
  cases ixN ds.length i with
  | none => rfl
  | some j => simp
@[simp] theorem ev_ixt : idxT (.p (.tuple ds)) (.p (.int i)) = (atI ds i).map T.p := by
  simp only [idxT, ev_int, Option.bind_some, T.kids, atI, List.length_map]
  cases ixN ds.length i with
  | none => rfl
  | some j => simp
@[simp] theorem ev_ixm : idxT (.ml ts) (.p (.int i)) = atI ts i := by simp [idxT, T.kids]
@[simp] theorem ev_ixp : idxT (.tp ts) (.p (.int i)) = atI ts i := by simp [idxT, T.kids]
@[simp] theorem ev_ixs {ns : List Int} : idxT (.sc ns) (.p (.int i)) = (atI ns i).map fun n => T.p (.int n) := by
  simp only [idxT, ev_int, Option.bind_some, T.kids, atI, List.length_map]
  cases ixN ns.length i with
  | none => rfl
  | some j => simp; rfl
@[simp] theorem ev_anyl : (T.p (.list ds)).any? = some ds := rfl
@[simp] theorem ev_anyt : (T.p (.tuple ds)).any? = some ds := rfl
@[simp] theorem ev_fzl : (T.p (.list ds)).fz? = some ds := rfl
@[simp] theorem ev_fzt : (T.p (.tuple ds)).fz? = some ds := rfl
@[simp] theorem ev_fzs {ns : List Int} : (T.sc ns).fz? = some (ns.map PyData.int) := rfl
@[simp] theorem ev_fzll : (T.p (.list ds)).fzl? = some ds := rfl
@[simp] theorem ev_seql : (T.p (.list ds)).seq? = some ds := rfl
@[simp] theorem ev_seqs {ns : List Int} : (T.sc ns).seq? = some (ns.map PyData.int) := rfl
@[simp] theorem ev_lstl : (T.p (.list ds)).lst? = some ds := rfl
@[simp] theorem ev_addl : addT (.p (.list ds)) (.p (.list es)) = if ds.length + es.length ≤ LIM then some (.p (.list (ds ++ es))) else none := rfl
@[simp] theorem ev_addt : addT (.p (.tuple ds)) (.p (.tuple es)) = if ds.length + es.length ≤ LIM then some (.p (.tuple (ds ++ es))) else none := rfl
@[simp] theorem ev_listl : listT [.p (.list ds)] = some (.p (.list ds)) := rfl
@[simp] theorem ev_listt : listT [.p (.tuple ds)] = some (.p (.list ds)) := rfl
@[simp] theorem ev_tuplel : tupleT [.p (.list ds)] = some (.p (.tuple ds)) := rfl
@[simp] theorem ev_slicel {lo hi : Option Int} : sliceT (.p (.list ds)) lo hi = some (.p (.list (cutL ds lo hi))) := rfl
@[simp] theorem ev_slicet {lo hi : Option Int} : sliceT (.p (.tuple ds)) lo hi = some (.p (.tuple (cutL ds lo hi))) := rfl
@[simp] theorem ev_slices {ns : List Int} {lo hi : Option Int} : sliceT (.sc ns) lo hi = some (.p (.list (cutL (ns.map PyData.int) lo hi))) := rfl
@[simp] theorem ev_min2 : minT [.p (.int i), .p (.int j)] = some (.p (.int (min i j))) := rfl
@[simp] theorem ev_max2 : maxT [.p (.int i), .p (.int j)] = some (.p (.int (max i j))) := rfl
@[simp] theorem ev_at0 : T.at [] t = some t.strip := rfl
@[simp] theorem ev_put0 : T.put [] t u = some (t.wrap u) := rfl
@[simp] theorem ev_own : (T.ml ts).own? = some ts := rfl
theorem pures_ints (xs : List Int) : pures (xs.map fun x => T.p (.int x)) = some (xs.map PyData.int) := by
  have := pures_map (xs.map PyData.int)
  rw [List.map_map] at this
  exact this
theorem snaps_ints (xs : List Int) : snaps (xs.map fun x => T.p (.int x)) = some (xs.map PyData.int) := by
  have := snaps_p (xs.map PyData.int)
  rw [List.map_map] at this
  exact this
end
theorem mulOk_l {i j : Int} (h : i.natAbs < 2 ^ 64) : mulOk i j = true := by simp [mulOk, h]
theorem mulOk_r {i j : Int} (h : j.natAbs < 2 ^ 64) : mulOk i j = true := by simp [mulOk, h]
theorem log2_small {n : Nat} (h : n < 2 ^ 64) : n.log2 < 9000 := by
  by_cases h0 : n = 0
  · subst h0; decide
  · exact (Nat.log2_lt h0).mpr (Nat.lt_of_lt_of_le h (Nat.pow_le_pow_right (by decide) (by decide)))
theorem divOk_small {j : Int} (h0 : j ≠ 0) (h : j.natAbs < 2 ^ 64) : divOk j = true := by
  simp [divOk, h0, log2_small h]
theorem atI_lt {α : Type} {xs : List α} {i : Int} (h0 : 0 ≤ i) (h1 : i < xs.length) : atI xs i = some (xs[i.toNat]'(by omega)) := by
  unfold atI ixN
  rw [if_pos h0, if_pos h1]
  simp
end M
/-! M12: len(set(xs)). -/
namespace M
open PySem PySem.Spec PyProof.Rows L2

/-- each once -/
def ddup : List Int → List Int
  | [] => []
  | x :: r => if x ∈ ddup r then ddup r else x :: ddup r
theorem mem_ddup {k : Int} : ∀ {ns : List Int}, k ∈ ddup ns ↔ k ∈ ns
  | [] => Iff.rfl
  | x :: r => by
    unfold ddup
    split
    · rename_i h
      rw [mem_ddup, List.mem_cons]
      exact ⟨.inr, fun z => z.elim (fun z => by subst z; exact mem_ddup.mp h) id⟩
    · rw [List.mem_cons, List.mem_cons, mem_ddup]
theorem nodup_ddup : ∀ ns : List Int, (ddup ns).Nodup
  | [] => List.nodup_nil
  | x :: r => by
    unfold ddup
    split
    · exact nodup_ddup r
    · rename_i h
      exact List.nodup_cons.mpr ⟨h, nodup_ddup r⟩
theorem ddup_le : ∀ ns : List Int, (ddup ns).length ≤ ns.length
  | [] => Nat.le_refl _
  | x :: r => by
    have := ddup_le r
    unfold ddup
    split <;> simp only [List.length_cons] <;> omega
theorem ddup_eq : ∀ {ns : List Int}, (ddup ns).length = ns.length ↔ ns.Nodup
  | [] => by simp [ddup]
  | x :: r => by
    have h := ddup_le r
    rw [List.nodup_cons, ← ddup_eq (ns := r)]
    by_cases z : x ∈ ddup r
    · have z' := mem_ddup.mp z
      rw [ddup, if_pos z, List.length_cons]
      exact ⟨fun e => by omega, fun e => absurd z' e.1⟩
    · have z' : x ∉ r := fun y => z (mem_ddup.mpr y)
      rw [ddup, if_neg z, List.length_cons, List.length_cons]
      exact ⟨fun e => ⟨z', by omega⟩, fun e => by omega⟩
theorem size_ddup {es ns : List Int} (hn : es.Nodup) (hm : ∀ k, k ∈ es ↔ k ∈ ns) : es.length = (ddup ns).length :=
  ((List.perm_ext_iff_of_nodup hn (nodup_ddup ns)).mpr fun k => (hm k).trans mem_ddup.symm).length_eq
theorem nodup_step {l : List Int} {v : Int} (h : l.Nodup) : (step_dedup l v).Nodup := by
  unfold step_dedup
  split
  · exact h
  · rename_i z
    refine List.nodup_append.mpr ⟨h, by simp, fun a ha b hb => ?_⟩
    have hb' : b = v := by simpa using hb
    subst hb'
    intro e
    subst e
    exact z (List.any_eq_true.mpr ⟨a, ha, by simp⟩)
theorem nodup_firstMet (val : Nat → Int) : ∀ i, (firstMet val i).Nodup
  | 0 => List.nodup_nil
  | i + 1 => by rw [firstMet_succ]; exact nodup_step (nodup_firstMet val i)
theorem mem_firstMet (ns : List Int) (k : Int) : k ∈ firstMet (fun i => ns.getD i 0) ns.length ↔ k ∈ ns := by
  have h := firstMet_any (fun i => ns.getD i 0) ns.length k
  have e : (List.range ns.length).map (fun i => ns.getD i 0) = ns := by
    apply List.ext_getElem
    · simp
    · intro i h1 h2
      simp [List.getD, h2]
  rw [e] at h
  have a : ∀ l : List Int, l.any (· == k) = true ↔ k ∈ l := fun l => by simp
  rw [← a, ← a, h]

section
variable {X : Cx}
def lenSetT : List T → Option T
  | [t] => t.any?.bind fun ds => (intsOf ds).bind fun ns => if ns.length ≤ 4000 then some (.p (.int (ddup ns).length)) else none
  | _ => none
def tLenSetD (K : PySem.W.Frag) (ta : TE) : TE := fun σ H Q => ta σ H fun x H1 => ∃ (l : Addr) (ns : List Int), x = .ref l ∧ (SqL K H1 l (ns.map V.int) ∨ SqT K H1 l (ns.map V.int)) ∧ ns.length ≤ 4000 ∧ Q (.int ((ddup ns).length : Nat)) H1
theorem pe_lenSetD {a : Expr} {ta : TE} {p p2 q pos : Pos} (hg : Gl X "len") (hm : X.mg "len" = none) (hg2 : Gl X "set") (hm2 : X.mg "set" = none) (hc : X.calm = true) (ha : PE X a ta)
    (na : starEach [a] X.env = (false, eval a X.env) :: starEach [] X.env := by rfl) : PE X (.Call (.Name "len" p) [.Call (.Name "set" p2) [a] [] q] [] pos) (tLenSetD X.K ta) := by
  refine ⟨fun pins s σ H Q I h => Call_ (ld_blt I hg hm boot_len (callWith_builtin1 (args_cons (Call_ (ld_blt I hg2 hm2 boot_set (callWith_type1 (args_cons (thn (ha.run pins s σ H _ I h) fun v s1 z => args_nil ?_) na) na rfl))) rfl) rfl rfl))⟩
  obtain ⟨x, H1, I1, r1, l, ns, rfl, hq, hl, q1⟩ := z
  cases r1
  rcases hq with hq | hq
  · obtain ⟨its, r, pl, hz⟩ := I1.list hq
    have hlen : its.length = ns.length := by rw [← r.length, List.length_map]
    refine call_set_list (ns := ns) (I1.ok.hd hc) pl.isList (by simpa using r.ints) (by rw [List.size_toArray, hlen]; unfold scanBound; omega) fun h' tk hS hk => args_nil ?_
    rw [show its.toArray.size = ns.length by rw [List.size_toArray, hlen]] at hS
    obtain ⟨o, es, ep, t, ho, hex, hd, _, _, _, hf, hn⟩ := hS
    have hs := size_ddup (nodup_firstMet (fun i => ns.getD i 0) ns.length) (mem_firstMet ns)
    have hle := ddup_le ns
    have I2 : Inv X pins σ H1 { s1 with heap := h', toks := tk } := I1.kept fun b o e => hk b o (Heap.lt_size e) e
    exact call_len_set ho hex hd hf (by rw [hn, hs]; omega) ⟨.int ((ddup ns).length : Nat), H1, I2.tok _, ⟨_, by rw [hn, hs]⟩, q1⟩
  · obtain ⟨its, r, pl, hz⟩ := I1.tuple hq
    refine call_set_tupI ns (I1.ok.hd hc) pl (by simpa using r.ints) (by unfold scanBound; omega) fun h' tk c hS hcl hk => args_nil ?_
    obtain ⟨o, es, ep, t, ho, hex, hd, _, hnd, hmem, _, hf, hn, _⟩ := hS
    have hs := size_ddup (ns := ns) hnd fun k => by rw [← hmem k]; simp
    rw [List.length_map, Array.length_toList] at hs
    have hle := ddup_le ns
    have I2 : Inv X pins σ H1 { s1 with heap := h', toks := tk } := I1.kept hk
    exact call_len_set ho hex hd hf (by rw [hs]; omega) ⟨.int ((ddup ns).length : Nat), H1, I2.tok _, ⟨_, by rw [hs]⟩, q1⟩
theorem pm_lenSet {a : Expr} {m : EM} {p p2 q pos : Pos} (hg : Gl X "len") (hm : X.mg "len" = none) (hg2 : Gl X "set") (hm2 : X.mg "set" = none) (hc : X.calm = true) (ha : PM X a m)
    (na : starEach [a] X.env = (false, eval a X.env) :: starEach [] X.env := by rfl) : PM X (.Call (.Name "len" p) [.Call (.Name "set" p2) [a] [] q] [] pos) (mCall lenSetT (aCons m aNil)) := by
  refine PE_imp (pe_lenSetD hg hm hg2 hm2 hc ha na) fun σ H Q h => ?_
  obtain ⟨G, env, F, rel, t, e, k⟩ := h
  simp only [mCall, aCons, aNil, Option.bind_eq_some_iff, Option.map_eq_some_iff] at e
  obtain ⟨ts, ⟨u, e1, us, e2, rfl⟩, e3⟩ := e
  cases e2
  simp only [lenSetT, Option.bind_eq_some_iff] at e3
  obtain ⟨ds, e4, ns, e5, e6⟩ := e3
  split at e6
  · rename_i hz
    cases e6
    refine ⟨G, env, F, rel, u, e1, fun v H' G' F' x r => ?_⟩
    obtain ⟨a, vs, rfl, h1, p1⟩ := r.any x.gh e4
    rw [intsOf_eq e5] at p1
    rw [p1.ints] at h1
    exact ⟨a, ns, rfl, h1, hz, k _ _ _ [] x (.p (.int _))⟩
  · cases e6
/-! x or y, x a list or tuple -/
def mOrL (ma mb : EM) : EM := fun env => (ma env).bind fun t => t.any?.bind fun ds => if ds.isEmpty = true then mb env else some t
@[simp] theorem ev_mOrL {ma mb : EM} {env : En} : mOrL ma mb env = (ma env).bind fun t => t.any?.bind fun ds => if ds.isEmpty = true then mb env else some t := rfl
theorem pm_orL {a b : Expr} {rest : List Expr} {pos : Pos} {ma mb : EM} (ha : PM X a ma) (hb : PM X (.BoolOp .Or (b :: rest) pos) mb) : PM X (.BoolOp .Or (a :: b :: rest) pos) (mOrL ma mb) := by
  refine PE_imp (pe_orT ha hb) fun σ H Q q => ?_
  obtain ⟨G, env, F, rel, t, e, q⟩ := q
  simp only [mOrL, Option.bind_eq_some_iff] at e
  obtain ⟨x, e1, ds, e2, e3⟩ := e
  refine ⟨G, env, F, rel, x, e1, fun v H' G' F' x1 r => ?_⟩
  obtain ⟨p, vs, rfl, h1, p1⟩ := r.any x1.gh e2
  have hl := p1.length
  have hb : vs.isEmpty = ds.isEmpty := by
    cases vs <;> cases ds <;> simp_all
  have ht : TruV X.K (.ref p) H' (!vs.isEmpty) := by
    rcases h1 with h1 | h1
    · exact .inl ⟨vs, h1, rfl⟩
    · exact .inr (.inl ⟨vs, h1, rfl⟩)
  refine ⟨!vs.isEmpty, ht, ?_⟩
  cases hd : ds.isEmpty with
  | true =>
    rw [hb, hd, if_neg (by decide)]
    rw [hd, if_pos rfl] at e3
    exact ⟨G', env, F, rel.ext x1, t, e3, fun v H2 G2 F2 x2 r2 => q v H2 G2 F2 (x1.trans x2) r2⟩
  | false =>
    rw [hb, hd, if_pos (by decide)]
    rw [hd, if_neg (by decide)] at e3
    cases e3
    exact q _ H' G' F' x1 r
end
end M
/-! M13: dicts. -/
namespace M
open PySem PySem.Spec PyProof.Rows L2

theorem u1 {n : Nat} (h : n + 64 < cLine) : n + 1 < cLine := by omega
def keyOf? : D → Option Key
  | .int i => some (.inl i)
  | .str x => some (.inr x)
  | _ => none
theorem keyOf_keyD (k : Key) : keyOf? (keyD k) = some k := by cases k <;> rfl
def keysD : List (D × D) → Option (List (Key × D))
  | [] => some []
  | (k, d) :: r => (keyOf? k).bind fun k => (keysD r).map fun ds => (k, d) :: ds
def T.dct? : T → Option (List (Key × D))
  | .md ds => some ds
  | .mk _ _ _ ds => some ds
  | .p (.dict ps) => keysD ps
  | _ => none
def valD (ds : List (Key × D)) (k : Key) : Option D := (ds.find? fun kv => decide (kv.1 = k)).map (·.2)
def putD (ds : List (Key × D)) (k : Key) (d : D) : List (Key × D) :=
  if (ds.any fun kv => decide (kv.1 = k)) = true then ds.map (fun kv => if kv.1 = k then (kv.1, d) else kv) else ds ++ [(k, d)]
section
variable {K : PySem.W.Frag} {G H : Hp}
theorem Rp.key {v : V} {d : D} {k : Key} (r : Rp K G v d) (e : keyOf? d = some k) : v = kV k := by
  cases r <;> first | (cases e; rfl) | (simp [keyOf?] at e)
theorem Rp.ofKey (k : Key) : Rp K G (kV k) (keyD k) := by
  cases k with
  | inl i => exact .int i
  | inr x => exact .str x
theorem Rpk.kr : ∀ {kvs : List (Key × V)} {ps : List (D × D)} {ds : List (Key × D)}, Rpk K G kvs ps → keysD ps = some ds → KR K G kvs ds
  | _, _, _, .nil, e => by cases e; exact .nil
  | _, _, _, .cons h r, e => by
    simp only [keysD, keyOf_keyD, Option.bind_some, Option.map_eq_some_iff] at e
    obtain ⟨ds, e1, rfl⟩ := e
    exact .cons h (r.kr e1)
theorem TR.dct {t : T} {v : V} {F : List Addr} {ds : List (Key × D)} (r : TR K G H t v F) (s : Same G H) (e : t.dct? = some ds) : ∃ a kvs, v = .ref a ∧ Rd H a (.dK kvs) ∧ KR K G kvs ds := by
  cases r with
  | p h =>
    cases h with
    | dct h r => exact ⟨_, _, rfl, .inl (s _ _ h), r.kr e⟩
    | _ => simp [T.dct?] at e
  | md h r => cases e; exact ⟨_, _, rfl, .inl h, r⟩
  | mk h r => cases e; exact ⟨_, _, rfl, .inr ⟨_, h⟩, r⟩
  | _ => simp [T.dct?] at e
theorem KR.val {k : Key} : ∀ {kvs : List (Key × V)} {ds : List (Key × D)}, KR K G kvs ds → (∀ d, valD ds k = some d → ∃ v, valV kvs k = some v ∧ Rp K G v d) ∧ (valD ds k).isSome = (valV kvs k).isSome
  | _, _, .nil => ⟨fun d e => by simp [valD] at e, rfl⟩
  | _, _, .cons (k := k0) (v := v0) (d := d0) h r => by
    obtain ⟨i1, i2⟩ := KR.val (k := k) r
    by_cases z : k0 = k
    · refine ⟨fun d e => ?_, ?_⟩
      · simp [valD, z] at e
        cases e
        exact ⟨v0, valV_pos z, h⟩
      · rw [valV_pos z]; simp [valD, z]
    · rw [valV_neg z]
      have q : ∀ r : List (Key × D), valD ((k0, d0) :: r) k = valD r k := fun r => by simp [valD, z]
      rw [q]
      exact ⟨i1, i2⟩
theorem KR.any {k : Key} : ∀ {kvs : List (Key × V)} {ds : List (Key × D)}, KR K G kvs ds → (kvs.any fun kv => decide (kv.1 = k)) = (ds.any fun kv => decide (kv.1 = k))
  | _, _, .nil => rfl
  | _, _, .cons _ r => by simp only [List.any_cons]; rw [KR.any r]
theorem KR.repl {k : Key} {v : V} {d : D} (q : Rp K G v d) : ∀ {kvs : List (Key × V)} {ds : List (Key × D)}, KR K G kvs ds → KR K G (kvs.map fun kv => if kv.1 = k then (kv.1, v) else kv) (ds.map fun kv => if kv.1 = k then (kv.1, d) else kv)
  | _, _, .nil => .nil
  | _, _, .cons (k := k0) h r => by
    simp only [List.map_cons]
    by_cases z : k0 = k
    · rw [if_pos z, if_pos z]; exact .cons q (KR.repl q r)
    · rw [if_neg z, if_neg z]; exact .cons h (KR.repl q r)
theorem KR.snoc {k : Key} {v : V} {d : D} (q : Rp K G v d) : ∀ {kvs : List (Key × V)} {ds : List (Key × D)}, KR K G kvs ds → KR K G (kvs ++ [(k, v)]) (ds ++ [(k, d)])
  | _, _, .nil => .cons q .nil
  | _, _, .cons h r => .cons h (KR.snoc q r)
theorem KR.put {k : Key} {v : V} {d : D} (q : Rp K G v d) {kvs : List (Key × V)} {ds : List (Key × D)} (r : KR K G kvs ds) : KR K G (putK kvs k v) (putD ds k d) := by
  unfold putK putD
  rw [r.any]
  split
  · exact r.repl q
  · exact r.snoc q
theorem KR.get : ∀ {kvs : List (Key × V)} {ds : List (Key × D)} {i : Nat} {k : Key} {v : V}, KR K G kvs ds → kvs[i]? = some (k, v) → ∃ d, ds[i]? = some (k, d)
  | _, _, _, _, _, .nil, e => by simp at e
  | _, _, 0, _, _, .cons h r, e => by simp at e; obtain ⟨rfl, rfl⟩ := e; exact ⟨_, rfl⟩
  | _, _, i + 1, k, v, .cons h r, e => by
    obtain ⟨d, h1⟩ := KR.get (i := i) r (by simpa using e)
    exact ⟨d, by simpa using h1⟩
end

/-! ### {}, {k: v} -/
def mDNew : EM := fun _ => some (.md [])
def mDOne (a b : EM) : EM := fun env => (a env).bind fun x => x.pure?.bind fun c => (keyOf? c).bind fun k => (b env).bind fun y => y.pure?.map fun d => .md [(k, d)]
def dGetT : T → T → Option T := fun t u => t.dct?.bind fun ds => u.pure?.bind fun c => (keyOf? c).bind fun k => (valD ds k).map T.p
def dInT : T → T → Option T := fun u t => u.pure?.bind fun c => (keyOf? c).bind fun k => t.dct?.map fun ds => .p (.bool (valD ds k).isSome)
def dNotInT : T → T → Option T := fun u t => u.pure?.bind fun c => (keyOf? c).bind fun k => t.dct?.map fun ds => .p (.bool (!(valD ds k).isSome))
section
variable {X : Cx} {pos : Pos} {a b : Expr} {ma mb : EM}
theorem pf_dnew : PF X (.Dict [] [] pos) mDNew := by
  refine PE_imp pe_dnewK fun σ H Q h => ?_
  obtain ⟨G, env, F, rel, t, e, q⟩ := h
  cases e
  intro p hp
  have x := Ext.fresh (o := .dK []) rel.sm hp
  refine q _ _ _ [p] x (.md upd_same .nil) (by simp) fun c hc => ?_
  have : c = p := by simpa using hc
  subst this
  exact ⟨rel.sm.free hp, hp⟩
theorem mergeK_one (k : Key) (v : V) : mergeK [] [(k, v)] = [(k, v)] := by simp [mergeK, putK]
theorem pf_done (ha : PM X a ma) (hb : PM X b mb) : PF X (.Dict [some a] [b] pos) (mDOne ma mb) := by
  refine PE_imp (pe_disp (pps_cons ha hb pps_nil) (by rfl) (by rfl) (fun z => by cases z) (by show 1 ≤ 15; decide)) fun σ H Q h => ?_
  obtain ⟨G, env, F, rel, t, e, q⟩ := h
  simp only [mDOne, Option.bind_eq_some_iff, Option.map_eq_some_iff] at e
  obtain ⟨x, e1, c, e2, k, e3, y, e4, d, e5, rfl⟩ := e
  intro p hp
  have x0 := Ext.fresh (o := .dK []) rel.sm hp
  refine ⟨G, env, F, rel.ext x0, x, e1, fun v H1 G1 F1 x1 r1 => ?_⟩
  refine ⟨G1, env, F, (rel.ext x0).ext x1, y, e4, fun w H2 G2 F2 x2 r2 => ?_⟩
  have hk : v = kV k := (r1.of_pure? e2).key e3
  have hp2 : H2 p = some (.dK []) := x2.hh _ _ (x1.hh _ _ upd_same)
  have x02 := (x0.trans x1).trans x2
  have hg : G2 p = none := (x1.trans x2).not (rel.sm.free hp) (by rw [upd_same]; simp)
  refine ⟨hp2, [(k, w)], by rw [hk]; rfl, by show 1 ≤ 15; decide, ?_⟩
  rw [mergeK_one]
  have x3 : Ext G H G2 (upd H2 p (.dK [(k, w)])) := ⟨x02.gg, fun c o z => ?_, fun c o z => ?_, x02.fr⟩
  · refine q _ _ _ [p] x3 (.md upd_same (.cons (r2.of_pure? e5) .nil)) (by simp) fun c hc => ?_
    have : c = p := by simpa using hc
    subst this
    exact ⟨hg, hp⟩
  · have : c ≠ p := fun y => by subst y; rw [hp] at z; cases z
    rw [upd_ne this]; exact x02.hh _ _ z
  · have : c ≠ p := fun y => by subst y; rw [hg] at z; cases z
    rw [upd_ne this]; exact x02.gh _ _ z
/-! ### d[k], k in d, k not in d -/
theorem pm_dget (hu : X.A.units + 1 < cLine) (ha : PM X a ma) (hb : PM X b mb) (hs : NoSl b) : PM X (.Subscript a b pos) (mOp dGetT ma mb) := by
  refine PE_imp (pe_dget hu ha hb hs) fun σ H Q h => ?_
  obtain ⟨G, env, F, rel, t, e, q⟩ := h
  simp only [mOp, dGetT, Option.bind_eq_some_iff, Option.map_eq_some_iff] at e
  obtain ⟨x, e1, y, e2, ds, e3, c, e4, k, e5, d, e6, rfl⟩ := e
  refine ⟨G, env, F, rel, x, e1, fun v H1 G1 F1 x1 r1 => ?_⟩
  refine ⟨G1, env, F, rel.ext x1, y, e2, fun w H2 G2 F2 x2 r2 => ?_⟩
  obtain ⟨p, kvs, rfl, hd, kr⟩ := (r1.keep x2.gg (Keep.of x2.hh)).dct x2.gh e3
  obtain ⟨u, h1, h2⟩ := kr.val.1 d e6
  exact ⟨p, u, rfl, .inl ⟨kvs, k, hd, (r2.of_pure? e4).key e5, h1.symm⟩, q u H2 G2 [] (x1.trans x2) (.p h2)⟩
theorem pm_din (hu : X.A.units + 1 < cLine) (ha : PM X a ma) (hb : PM X b mb) (h1 : behindInMarks .In b = false := by rfl) : PM X (.Compare a [.In] [b] pos) (mOp dInT ma mb) := by
  refine PE_imp (pe_cmp (pc_din hu ha hb) h1) fun σ H Q h => ?_
  obtain ⟨G, env, F, rel, t, e, q⟩ := h
  simp only [mOp, dInT, Option.bind_eq_some_iff, Option.map_eq_some_iff] at e
  obtain ⟨x, e1, y, e2, c, e4, k, e5, ds, e3, rfl⟩ := e
  refine ⟨G, env, F, rel, x, e1, fun v H1 G1 F1 x1 r1 => ?_⟩
  refine ⟨G1, env, F, rel.ext x1, y, e2, fun w H2 G2 F2 x2 r2 => ?_⟩
  obtain ⟨p, kvs, rfl, hd, kr⟩ := r2.dct x2.gh e3
  refine ⟨p, _, rfl, .inl ⟨kvs, k, hd, (r1.of_pure? e4).key e5, rfl⟩, ?_⟩
  rw [← kr.val.2]
  exact q _ H2 G2 [] (x1.trans x2) (.p (.bl _))
theorem pm_dnotin (hu : X.A.units + 1 < cLine) (ha : PM X a ma) (hb : PM X b mb) (h1 : behindInMarks .NotIn b = false := by rfl) : PM X (.Compare a [.NotIn] [b] pos) (mOp dNotInT ma mb) := by
  refine PE_imp (pe_cmp (pc_dnotin hu ha hb) h1) fun σ H Q h => ?_
  obtain ⟨G, env, F, rel, t, e, q⟩ := h
  simp only [mOp, dNotInT, Option.bind_eq_some_iff, Option.map_eq_some_iff] at e
  obtain ⟨x, e1, y, e2, c, e4, k, e5, ds, e3, rfl⟩ := e
  refine ⟨G, env, F, rel, x, e1, fun v H1 G1 F1 x1 r1 => ?_⟩
  refine ⟨G1, env, F, rel.ext x1, y, e2, fun w H2 G2 F2 x2 r2 => ?_⟩
  obtain ⟨p, kvs, rfl, hd, kr⟩ := r2.dct x2.gh e3
  refine ⟨p, _, rfl, .inl ⟨kvs, k, hd, (r1.of_pure? e4).key e5, rfl⟩, ?_⟩
  rw [← kr.val.2]
  exact q _ H2 G2 [] (x1.trans x2) (.p (.bl _))
theorem ptm_din (hu : X.A.units + 1 < cLine) (ha : PM X a ma) (hb : PM X b mb) (h1 : behindInMarks .In b = false := by rfl) : PTM X (.Compare a [.In] [b] pos) (bOp dInT ma mb) := by
  refine PT_imp (pt_cmp (pc_din hu ha hb) h1) fun σ H Q h => ?_
  obtain ⟨G, env, F, rel, t, e, q⟩ := h
  simp only [bOp, bVal, mOp, dInT, Option.bind_eq_some_iff, Option.map_eq_some_iff] at e
  obtain ⟨z, ⟨x, e1, y, e2, c, e4, k, e5, ds, e3, rfl⟩, e6⟩ := e
  cases e6
  refine ⟨G, env, F, rel, x, e1, fun v H1 G1 F1 x1 r1 => ?_⟩
  refine ⟨G1, env, F, rel.ext x1, y, e2, fun w H2 G2 F2 x2 r2 => ?_⟩
  obtain ⟨p, kvs, rfl, hd, kr⟩ := r2.dct x2.gh e3
  refine ⟨p, _, rfl, .inl ⟨kvs, k, hd, (r1.of_pure? e4).key e5, rfl⟩, _, rfl, ?_⟩
  rw [← kr.val.2]
  exact q H2 G2 (x1.trans x2)
theorem ptm_dnotin (hu : X.A.units + 1 < cLine) (ha : PM X a ma) (hb : PM X b mb) (h1 : behindInMarks .NotIn b = false := by rfl) : PTM X (.Compare a [.NotIn] [b] pos) (bOp dNotInT ma mb) := by
  refine PT_imp (pt_cmp (pc_dnotin hu ha hb) h1) fun σ H Q h => ?_
  obtain ⟨G, env, F, rel, t, e, q⟩ := h
  simp only [bOp, bVal, mOp, dNotInT, Option.bind_eq_some_iff, Option.map_eq_some_iff] at e
  obtain ⟨z, ⟨x, e1, y, e2, c, e4, k, e5, ds, e3, rfl⟩, e6⟩ := e
  cases e6
  refine ⟨G, env, F, rel, x, e1, fun v H1 G1 F1 x1 r1 => ?_⟩
  refine ⟨G1, env, F, rel.ext x1, y, e2, fun w H2 G2 F2 x2 r2 => ?_⟩
  obtain ⟨p, kvs, rfl, hd, kr⟩ := r2.dct x2.gh e3
  refine ⟨p, _, rfl, .inl ⟨kvs, k, hd, (r1.of_pure? e4).key e5, rfl⟩, _, rfl, ?_⟩
  rw [← kr.val.2]
  exact q H2 G2 (x1.trans x2)
end
/-! ### d[k] = v, for k in d: d in a slot -/
theorem md_at {K : PySem.W.Frag} {G0 R G H : Hp} {env : En} {σ : L2.St} {F : List Addr} {i : Nat} {t : T} {v0 : V} (rel : Rel K G H env σ F) (hR : ∀ a ∈ F, R a = none) (x0 : Ext G0 R G H)
    (e1 : env[i]? = some (some t)) (hs : σ[i]? = some (some v0)) (ht : (∃ ds, t.strip = .md ds) ∨ ∃ a od kvs ds, t.strip = .mk a od kvs ds) :
    ∃ a, v0 = .ref a ∧ TR K G H t.strip (.ref a) [a] ∧ ∀ ho t', TR K G (upd H a ho) t' (.ref a) [a] → SR K G0 R (env.set i (some (t.wrap t'))) σ (upd H a ho) := by
  obtain ⟨v0', v, F1, Fo, h1, h2, h3, h4, h5, h6, h7⟩ := rel.mut e1 (show T.at [] t = some t.strip from rfl)
  have z0 : v0' = v0 := by
    have := h1.symm.trans hs
    cases this
    rfl
  subst z0
  cases h2
  have hF : ∃ a, v0' = .ref a ∧ F1 = [a] := by
    rcases ht with ⟨ds, hz⟩ | ⟨a, od, kvs, ds, hz⟩
    · rw [hz] at h3
      cases h3 with
      | md h r => exact ⟨_, rfl, rfl⟩
    · rw [hz] at h3
      cases h3 with
      | mk h r => exact ⟨_, rfl, rfl⟩
  obtain ⟨a, rfl, rfl⟩ := hF
  refine ⟨a, rfl, h3, fun ho t' r' => ?_⟩
  have haF : a ∈ F := h4 a List.mem_cons_self
  have hGa := (rel.fr a haF).1
  have sm : Same G (upd H a ho) := fun b o z => by
    have : b ≠ a := fun y => by subst y; rw [hGa] at z; cases z
    rw [upd_ne this]; exact rel.sm _ _ z
  have hna : a ∉ Fo := fun z => (h6 a z).2 List.mem_cons_self
  obtain ⟨t'', F', p1, p2, p3⟩ := h7 G (upd H a ho) t' [a] (Same.refl G) sm (fun b hb o z => by
    have : b ≠ a := fun y => by subst y; exact hna hb
    rw [upd_ne this]; exact z) r' (by simp) (fun b hb => by
      have : b = a := by simpa using hb
      subst this; exact ⟨hGa, hna⟩) (fun b hb => (rel.fr b (h6 b hb).1).1)
  cases p1
  refine ⟨G, F', p2, fun b hb => ?_, x0.gg, fun b o z => ?_, sm, x0.fr⟩
  · rcases p3 b hb with z | z
    · have : b = a := by simpa using z
      subst this; exact hR _ haF
    · exact hR _ (h6 b z).1
  · have : b ≠ a := fun y => by subst y; rw [hR _ haF] at z; cases z
    rw [upd_ne this]; exact x0.hh _ _ z
def sDPut (i : Nat) (mk mv : EM) : SM := fun env => (mv env).bind fun y => y.pure?.bind fun d => (mk env).bind fun u => u.pure?.bind fun c => (keyOf? c).bind fun k => (slotT env i).bind fun t => match t.strip with
  | .md ds => if ds.length < LIM then some (.nx (env.set i (some (t.wrap (.md (putD ds k d)))))) else none
  | _ => none
section
variable {X : Cx} {pos pos' npos : Pos} {e ie : Expr} {mk mv : EM}
theorem psm_dput (i : Nat) {x : Str} (hu : X.A.units + 1 < cLine) (hi : PM X ie mk) (hv : PM X e mv) (hN : X.N[i]? = some x := by rfl) (hvis : Vis X.env.scope x := by first | exact Or.inl rfl | exact Or.inr (Or.inl rfl) | exact Or.inr (Or.inr rfl)) (hd : (x == ("__debug__" : Str)) = false := by decide)
    (hcd : (x == ("__classdict__" : Str)) = false := by decide) (hs : swapsWith e (some (.Subscript (.Name x npos) ie pos')) pos.line X.env = pure false := by rfl) : PSM X (.Assign [.Subscript (.Name x npos) ie pos'] e pos) (sDPut i mk mv) := by
  refine PS_imp (ps_dput hu (pe_var hN hvis hd hcd) hi hv hs) fun D σ H h => ?_
  obtain ⟨G0, R, env, ⟨G, F, rel, hR, x0⟩, o, e, g⟩ := h
  simp only [sDPut, Option.bind_eq_some_iff] at e
  obtain ⟨y, e1, d, e2, u, e3, c, e4, k, e5, t, hsl, e6⟩ := e
  split at e6
  · rename_i ds hst
    split at e6
    · rename_i hz
      cases e6
      refine ⟨G, env, F, rel, y, e1, fun v H1 G1 F1 x1 r1 => ?_⟩
      obtain ⟨v0, _, _, _, h1, _⟩ := rel.mut (slotT_eq hsl) (show T.at [] t = some t.strip from rfl)
      refine ⟨v0, h1, G1, env, F, rel.ext x1, u, e3, fun w H2 G2 F2 x2 r2 => ?_⟩
      obtain ⟨a, rfl, tr, up⟩ := md_at ((rel.ext x1).ext x2) hR ((x0.trans x1).trans x2) (slotT_eq hsl) h1 (.inl ⟨ds, hst⟩)
      rw [hst] at tr
      cases tr with
      | md ha kr =>
        refine ⟨a, _, rfl, .inl ⟨_, k, ha, (r2.of_pure? e4).key e5, by rw [kr.length]; exact Nat.lt_of_lt_of_le hz LIM_line, rfl⟩, ?_⟩
        exact g σ _ (up _ _ (.md upd_same (kr.put ((r1.of_pure? e2).mono x2.gg))))
    · cases e6
  · cases e6
end
/-- the turns of a for over a dict: the slot holds the locked dict at each -/
def FD (i : Nat) (t : T) (g : D → En → Option En) (mb : SM) : List D → En → En → Prop
  | [], env, env' => env' = env ∧ env[i]? = some (some t)
  | d :: r, env, env' => env[i]? = some (some t) ∧ ∃ e1, g d env = some e1 ∧ ∃ e2, (mb e1 = some (.nx e2) ∨ mb e1 = some (.ct e2)) ∧ FD i t g mb r e2 env'
theorem FD.at {i : Nat} {t : T} {g : D → En → Option En} {mb : SM} : ∀ {ds : List D} {env env' : En}, FD i t g mb ds env env' → env[i]? = some (some t)
  | [], _, _, h => h.2
  | _ :: _, _, _, h => h.1
theorem FD.det {i : Nat} {t : T} {g : D → En → Option En} {mb : SM} : ∀ {ds : List D} {env e1 e2 : En}, FD i t g mb ds env e1 → FD i t g mb ds env e2 → e1 = e2
  | [], _, _, _, h, h' => by rw [h.1, h'.1]
  | _ :: _, _, _, _, ⟨_, a, ha, b, hb, h⟩, ⟨_, a', ha', b', hb', h'⟩ => by
    rw [ha] at ha'
    cases ha'
    have : b = b' := by
      rcases hb with z | z <;> rcases hb' with z' | z' <;> (rw [z] at z'; cases z') <;> rfl
    subst this
    exact FD.det h h'
def dkeys (ds : List (Key × D)) : List D := ds.map fun p => keyD p.1
def FDs (i : Nat) (g : D → En → Option En) (mb : SM) (ds : List (Key × D)) (env e' : En) : Prop := ∀ a od kvs, FD i (.mk a od kvs ds) g mb (dkeys ds) (env.set i (some (.mk a od kvs ds))) (e'.set i (some (.mk a od kvs ds)))
open Classical in
noncomputable def sForD (i : Nat) (g : D → En → Option En) (mb : SM) : SM := fun env => match slotT env i with
  | some (.md ds) => if h : ∃ e', FDs i g mb ds env e' then some (.nx ((choose h).set i (some (.md ds)))) else none
  | _ => none
instance : Inhabited Obj := ⟨{ cls := .none, dict := none, data := .plain, slots := #[] }⟩
theorem sForD_eq {i : Nat} {g : D → En → Option En} {mb : SM} {env e' : En} {ds : List (Key × D)} (hs : env[i]? = some (some (.md ds))) (h : FDs i g mb ds env e') : sForD i g mb env = some (.nx (e'.set i (some (.md ds)))) := by
  have hsl : slotT env i = some (.md ds) := by unfold slotT; rw [hs]; rfl
  have ex : ∃ e', FDs i g mb ds env e' := ⟨e', h⟩
  unfold sForD
  rw [hsl]
  simp only
  rw [dif_pos ex]
  have h2 := Classical.choose_spec ex
  have z := FD.det (h2 0 default []) (h 0 default [])
  have z2 := congrArg (fun l : En => l.set i (some (.md ds))) z
  simp only [List.set_set] at z2
  rw [z2]
section
variable {X : Cx} {pos npos : Pos} {tg : Expr} {body : List Stmt} {js : List Nat} {g : D → En → Option En} {mb : SM}
theorem psm_forD (i : Nat) {x : Str} (hp : PassesOwn (model X.prog X.w) X.A X.env X.xe) (hc : X.calm = true) (hg : GM X tg js g) (hb : PSsM X body mb) (hN : X.N[i]? = some x := by rfl) (hvis : Vis X.env.scope x := by first | exact Or.inl rfl | exact Or.inr (Or.inl rfl) | exact Or.inr (Or.inr rfl)) (hd : (x == ("__debug__" : Str)) = false := by decide)
    (hcd : (x == ("__classdict__" : Str)) = false := by decide) (hs : ∀ y, foldedSetIterable (.Name x npos) X.env y = pure y := by intro _; rfl) : PSM X (.For tg (.Name x npos) body [] pos) (sForD i g mb) := by
  refine PS_imp (ps_lock (ps_for hp hc (pi_keys (pe_var hN hvis hd hcd)) hg hb hs)) fun D σ H h => ?_
  obtain ⟨G0, R, env, ⟨G, F, rel, hR, x0⟩, o, e, gg⟩ := h
  unfold sForD at e
  split at e
  · rename_i ds hsl
    split at e
    · rename_i hex
      cases e
      have hfd := Classical.choose_spec hex
      generalize Classical.choose hex = e' at hfd gg
      obtain ⟨v0, _, _, _, h1, _⟩ := rel.mut (slotT_eq hsl) (show T.at [] (T.md ds) = some (.md ds) from rfl)
      obtain ⟨a, rfl, tr, up⟩ := md_at rel hR x0 (slotT_eq hsl) h1 (.inl ⟨ds, rfl⟩)
      cases tr with
      | md ha kr =>
        rename_i kvs
        refine ⟨a, .dK kvs, ha, trivial, fun od => ?_⟩
        have sr1 := up (.frz od (.dK kvs)) (.mk a od kvs ds) (.mk upd_same kr)
        refine ⟨.ref a, h1, a, od, rfl, .inl ⟨kvs, upd_same, ?_⟩⟩
        have hfd1 := hfd a od kvs
        have hlen : (dkeys ds).length = kvs.length := by unfold dkeys; rw [List.length_map, kr.length]
        refine ⟨fun j m σ H => m = kvs.length - j ∧ j ≤ kvs.length ∧ ∃ envi, SR X.K G0 R envi σ H ∧ FD i (.mk a od kvs ds) g mb ((dkeys ds).drop j) envi (e'.set i (some (.mk a od kvs ds))), ⟨kvs.length, rfl, Nat.zero_le _, _, sr1, by rw [List.drop_zero]; exact hfd1⟩, ?_⟩
        rintro j m σ H ⟨rfl, hj, envi, ⟨G2, F2, rel2, hR2, x2⟩, hfd2⟩
        have hat := hfd2.at
        obtain ⟨v1, _, _, _, k1, _⟩ := rel2.mut hat (show T.at [] (T.mk a od kvs ds) = some (.mk a od kvs ds) from rfl)
        obtain ⟨a', rfl, tr2, up2⟩ := md_at rel2 hR2 x2 hat k1 (.inr ⟨a, od, kvs, ds, rfl⟩)
        cases tr2 with
        | mk ha2 kr2 =>
          by_cases hlt : j < kvs.length
          · have hlt' : j < (dkeys ds).length := by rw [hlen]; exact hlt
            rw [List.drop_eq_getElem_cons hlt'] at hfd2
            obtain ⟨_, e1, hg1, e2, hb1, hr1⟩ := hfd2
            refine .inr ⟨⟨ha2, hlt⟩, fun σ' H' => ∃ envi, SR X.K G0 R envi σ' H' ∧ FD i (.mk a od kvs ds) g mb ((dkeys ds).drop (j + 1)) envi (e'.set i (some (.mk a od kvs ds))), fun σ' H' w => ⟨kvs.length - (j + 1), by omega, rfl, hlt, w⟩, fun y H3 yl => ?_⟩
            obtain ⟨rfl, k, v, hk, rfl⟩ := yl
            obtain ⟨d, hd'⟩ := kr2.get hk
            have hkey : (dkeys ds)[j] = keyD k := by
              have h0 : (dkeys ds)[j]? = some (keyD k) := by unfold dkeys; rw [List.getElem?_map, hd']; rfl
              rw [List.getElem?_eq_getElem hlt'] at h0
              exact Option.some.inj h0
            refine ⟨G2, envi, F2, (dkeys ds)[j], rel2, by rw [hkey]; exact Rp.ofKey k, e1, hg1, fun σ4 F4 rel4 s4 _ => ?_⟩
            rcases hb1 with hb1 | hb1
            · exact ⟨G0, R, e1, ⟨G2, F4, rel4, fun b hb => hR2 b (s4 b hb), x2⟩, .nx e2, hb1, fun σ' H' s' => ⟨e2, s', hr1⟩⟩
            · exact ⟨G0, R, e1, ⟨G2, F4, rel4, fun b hb => hR2 b (s4 b hb), x2⟩, .ct e2, hb1, fun σ' H' s' => ⟨e2, s', hr1⟩⟩
          · have hjj : j = kvs.length := by omega
            subst hjj
            rw [List.drop_eq_nil_of_le (by rw [hlen]; exact Nat.le_refl _)] at hfd2
            obtain ⟨z, _⟩ := hfd2
            have up3 := up2 (.dK kvs) (.md ds) (.md upd_same kr2)
            rw [← z, List.set_set] at up3
            exact .inl ⟨⟨ha2, Nat.le_refl _⟩, ha2, gg σ _ up3⟩
    · cases e
  · cases e
end
end M
/-! M14: t[::-1] of a tuple. -/
namespace M
open PySem PySem.Spec PyProof.Rows L2 HT

theorem fm_congr {α β : Type} {f g : α → Option β} : ∀ {l : List α}, (∀ x ∈ l, f x = g x) → l.filterMap f = l.filterMap g
  | [], _ => rfl
  | x :: r, h => by
    rw [List.filterMap_cons, List.filterMap_cons, h x List.mem_cons_self, fm_congr (l := r) fun y hy => h y (List.mem_cons_of_mem _ hy)]
theorem pick_rev (xs : Array Value) : ((List.range xs.size).filterMap fun (m : Nat) => xs[(((xs.size : Int) - 1) + (m : Int) * (-1)).toNat]?).toArray = xs.toList.reverse.toArray := by
  have h := pick_gen xs.toList.reverse.toArray 0 xs.size
  have e : (List.range xs.size).filterMap (fun (m : Nat) => xs[(((xs.size : Int) - 1) + (m : Int) * (-1)).toNat]?) = (List.range xs.size).filterMap (fun (m : Nat) => xs.toList.reverse.toArray[(((0 : Nat) : Int) + (m : Int) * 1).toNat]?) := by
    refine fm_congr fun m hm => ?_
    have hm' : m < xs.size := List.mem_range.mp hm
    have e1 : (((xs.size : Int) - 1) + (m : Int) * (-1)).toNat = xs.size - 1 - m := by omega
    have e2 : (((0 : Nat) : Int) + (m : Int) * 1).toNat = m := by omega
    rw [e1, e2]
    simp only [List.getElem?_toArray]
    rw [List.getElem?_reverse (by simpa using hm')]
    simp
  rw [e, h, List.drop_zero, List.take_of_length_le (by simp)]
section
variable {P : Program} {w : World} {A : Around} {E : Value → Shared → Prop} {s : Shared}
theorem applied_rev {sl : Addr} {vl vu vs : Value} {n : Nat} {Q : Int × Int × Nat → Shared → Prop} (hs : s.heap.IsSliceOf sl vl vu vs) (pl : IsPart vl none) (pu : IsPart vu none) (ps : IsPart vs (some (-1)))
    (h : Q ((n : Int) - 1, -1, n) s) : wpAny (model P w) A (Builtin.Slice.sliceApplied (.ref sl) (pure (n : Int))) Q E s := by
  have hq : Builtin.Slice.slicePlaces ((n : Int) - 1) (-1) (-1) = n := by
    unfold Builtin.Slice.slicePlaces
    simp only [show ¬ ((-1 : Int) > 0) by omega, if_false, Int.neg_neg, Int.ediv_one]
    split <;> omega
  have ha : Builtin.Slice.sliceAdjust none none (-1) (n : Int) = ((n : Int) - 1, -1) := rfl
  obtain ⟨ob, h1, h2, h3⟩ := id hs
  unfold Builtin.Slice.sliceApplied Builtin.Slice.sliceFields
  refine wpAny_bind (wpAny_bind (wpAny_field h1 h3 (x := vl) rfl (wpAny_bind (wpAny_field h1 h3 (x := vu) rfl (wpAny_bind (wpAny_field h1 h3 (x := vs) rfl (wpAny_pure (wpAny_bind (slicePart_ ps ?_)))))))))
  show wpAny _ _ (if ((-1 : Int) == 0) = true then _ else _) _ _ s
  rw [if_neg (show ¬ ((-1 : Int) == 0) = true by decide)]
  refine wpAny_bind (slicePart_ pl (wpAny_bind (slicePart_ pu (wpAny_bind (wpAny_pure ?_)))))
  show wpAny _ _ (match Builtin.Slice.sliceAdjust none none (-1) (n : Int) with | (lo, hi) => pure (lo, (-1 : Int), Builtin.Slice.slicePlaces lo hi (-1))) _ _ s
  rw [ha]
  show wpAny _ _ (pure ((n : Int) - 1, (-1 : Int), Builtin.Slice.slicePlaces ((n : Int) - 1) (-1) (-1))) _ _ s
  rw [hq]
  exact wpAny_pure h
theorem item_rev {t sl : Addr} {its : Array Value} {vl vu vs : Value} {Q : Value → Shared → Prop} (ht : IsTup s.heap t its) (hs : s.heap.IsSliceOf sl vl vu vs) (pl : IsPart vl none) (pu : IsPart vu none) (ps : IsPart vs (some (-1))) (hz : its.size ≤ sizeLine)
    (h : Q (.ref s.heap.objs.size) { s with heap := s.heap.push { cls := .type "tuple", data := .seq its.toList.reverse.toArray } }) : wpAny (model P w) A (getItem (.ref t) (.ref sl)) Q E s := by
  have hk : sizeOk (.seq its.toList.reverse.toArray) := by
    show its.toList.reverse.toArray.size ≤ sizeLine
    simpa using hz
  have hT : s.TypeIs (.ref sl) "slice" := by
    obtain ⟨ob, h1, h2, _⟩ := id hs
    exact ⟨ob, h1, h2⟩
  unfold getItem
  first | with_reducible refine wpAny_holding ?_ | skip
  first | refine wpAny_bind (wpAny_pure ?_) | skip
  refine wpAny_bind (wpAny_sequenceKey ht.typeIs (by decide) (wpAny_bind (wpAny_callSpecial?_slot (name := Str.ofString "__getitem__") ht.typeIs PyProof.Rows.slot_tuple_getitem (wpAny_call_entry PyProof.Rows.slot_tuple_getitem ht.typeIs entry_tuple_getitem ?_ (args_tuple_getitem _ _)))))
  show wpAny _ _ (Builtin.Tuple.tupleItemsOf (.ref t) >>= _) _ _ s
  refine wpAny_bind (tupleItemsOf_ ht (wpAny_bind (wpAny_typeOf hT ?_)))
  rw [if_pos (by decide)]
  refine wpAny_bind (applied_rev hs pl pu ps ?_)
  have hno : ¬ ((((its.size : Int) - 1) == 0 && (-1 : Int) == 1 && its.size == its.size) = true) := by
    rw [show ((-1 : Int) == 1) = false by decide, Bool.and_false, Bool.false_and]
    decide
  show wpAny _ _ (if ((((its.size : Int) - 1) == 0 && (-1 : Int) == 1 && its.size == its.size) = true) then _ else _) _ _ s
  rw [if_neg hno, pick_rev]
  first
    | exact wpAny_bind (m := Builtin.Tuple.tupleExact _) (wpAny_newObj_type (wpAny_pure ⟨_, rfl, wpAny_pure h⟩) hk)
    | exact wpAny_bind (m := Builtin.Tuple.tupleExact _) (wpAny_newObj_type (wpAny_bind (wpAny_pure (wpAny_pure ⟨_, rfl, wpAny_pure h⟩))) hk)
    | exact wpAny_bind (wpAny_bind (m := Builtin.Tuple.tupleExact _) (wpAny_newObj_type (wpAny_pure (wpAny_pure ⟨_, rfl, wpAny_pure h⟩)) hk))
    | exact wpAny_bind (wpAny_bind (m := Builtin.Tuple.tupleExact _) (wpAny_newObj_type (wpAny_pure ⟨_, rfl, wpAny_pure h⟩) hk))
end

section
variable {X : Cx}
def tRevT (K : PySem.W.Frag) (te : TE) : TE := fun σ H Q => te σ H fun x H1 => ∃ a xs, x = .ref a ∧ SqT K H1 a xs ∧ ∀ p, H1 p = none → Q (.ref p) (upd H1 p (.tup xs.reverse))
theorem pe_revT {e : Expr} {te : TE} {k : Nat} {p1 p2 p3 pos : Pos} (he : PE X e te) : PE X (.Subscript e (.Slice none none (some (.UnaryOp .USub (.Constant (.int 1) k p1) p2)) p3) pos) (tRevT X.K te) := by
  refine ⟨fun pins s σ H Q I h => Subscript_ (thn (he.run pins s σ H _ I h) fun v s1 z => ?_)⟩
  obtain ⟨x, H1, I1, r1, a, xs, rfl, hx, q⟩ := z
  cases r1
  have hm1 : PO X (some (.UnaryOp .USub (.Constant (.int 1) k p1) p2)) (tPart (tUn (rU fun i => .int (-i)) (tC (.int 1)))) := po_some (pe_un un_neg pe_int)
  refine wpAny_Slice (thn (po_none.run pins s1 σ H1 (fun o H2 => o = none ∧ H2 = H1) I1 ⟨rfl, rfl⟩) fun vl s2 z2 => ?_)
  obtain ⟨l, H2, I2, pl, rfl, rfl⟩ := z2
  refine thn (po_none.run pins s2 σ H2 (fun o H3 => o = none ∧ H3 = H2) I2 ⟨rfl, rfl⟩) fun vu s3 z3 => ?_
  obtain ⟨u, H3, I3, pu, rfl, rfl⟩ := z3
  refine thn (hm1.run pins s3 σ H3 (fun o H4 => o = some (-1) ∧ H4 = H3) I3 ⟨1, rfl, -1, rfl, rfl, rfl⟩) fun vs s4 z4 => ?_
  obtain ⟨o, H4, I4, ps, rfl, rfl⟩ := z4
  have J : Inv X pins σ H4 { s4 with heap := s4.heap.push { cls := .type "slice", data := .fields #[vl, vu, vs] } } := I4.kept (t' := s4.toks) fun b ob y => Heap.get?_push_of_some _ y
  obtain ⟨its, r, ht, hz⟩ := J.tuple hx
  have hlen := r.length
  show wpAny (model X.prog X.w) X.A (subscriptTail e (.Slice none none (some (.UnaryOp .USub (.Constant (.int 1) k p1) p2)) p3) (.ref a) (.ref s4.heap.objs.size)) (EP X pins σ Q) X.xe _
  refine tail_any (ops := [.ref a, .ref s4.heap.objs.size]) ht.typeIs (PyProof.Rows.slot_tuple_getitem.lookup) ?_ (by with_unfolding_all rfl)
  refine item_rev ht (Heap.IsSliceOf.new _ vl vu vs) pl pu ps (by rw [List.size_toArray]; omega) ?_
  refine ⟨.ref _, _, J.laid (t' := s4.toks) (o := .tup xs.reverse) (fun b ob y => Heap.get?_push_of_some _ y) (Nat.le_refl _) ?_, rfl, q _ (J.hok.fresh (Nat.le_refl _))⟩
  have rr := r.reverse
  first
    | exact ⟨by rw [List.length_reverse]; exact hz, _, 0, rr, Heap.get?_push_size _ rfl⟩
    | exact ⟨by rw [List.length_reverse]; exact hz, _, rr, ⟨_, Heap.get?_push_size _ rfl, rfl, 0, rfl⟩⟩
    | exact ⟨by rw [List.length_reverse]; exact hz, _, rr, _, Heap.get?_push_size _ rfl, rfl, _, rfl⟩
end
def mRevT (m : EM) : EM := fun env => (m env).bind fun t => match t.seq? with
  | some ds => some (.p (.list ds.reverse))
  | none => t.any?.map fun ds => .p (.tuple ds.reverse)
@[simp] theorem ev_mRevT {m : EM} {env : En} : mRevT m env = (m env).bind fun t => match t.seq? with
  | some ds => some (.p (.list ds.reverse))
  | none => t.any?.map fun ds => .p (.tuple ds.reverse) := rfl
theorem PE_or {X : Cx} {e : Expr} {t t' : TE} (h : PE X e t) (h' : PE X e t') : PE X e (fun σ H Q => t σ H Q ∨ t' σ H Q) := ⟨fun pins s σ H Q I q => q.elim (h.run pins s σ H Q I) (h'.run pins s σ H Q I)⟩
theorem pm_revA {X : Cx} {e : Expr} {me : EM} {k : Nat} {p1 p2 p3 pos : Pos} (he : PM X e me) : PM X (.Subscript e (.Slice none none (some (.UnaryOp .USub (.Constant (.int 1) k p1) p2)) p3) pos) (mRevT me) := by
  refine PE_imp (PE_or (pe_revL he) (pe_revT he)) fun σ H Q h => ?_
  obtain ⟨G, env, F, rel, t, e1, q⟩ := h
  simp only [mRevT, Option.bind_eq_some_iff] at e1
  obtain ⟨t1, e2, e3⟩ := e1
  cases hs : t1.seq? with
  | some ds =>
    rw [hs] at e3
    cases e3
    refine .inl ⟨G, env, F, rel, t1, e2, fun x H1 G1 F1 x1 r1 => ?_⟩
    obtain ⟨p, vs, rfl, h1, p1⟩ := r1.seq x1.gh hs
    refine ⟨p, vs, rfl, h1, fun l nl => ?_⟩
    have x4 := Ext.new (o := .lst vs.reverse) x1.gh nl
    exact q _ _ _ [] (x1.trans x4) (.p (.lst upd_same (p1.reverse.mono x4.gg)))
  | none =>
    rw [hs] at e3
    simp only [Option.map_eq_some_iff] at e3
    obtain ⟨ds, e4, rfl⟩ := e3
    refine .inr ⟨G, env, F, rel, t1, e2, fun x H1 G1 F1 x1 r1 => ?_⟩
    have e5 : t1.tup? = some ds := by
      unfold T.any? at e4
      rw [hs] at e4
      exact e4
    obtain ⟨p, vs, rfl, h1, p1⟩ := r1.tup x1.gh e5
    refine ⟨p, vs, rfl, h1, fun l nl => ?_⟩
    have x4 := Ext.new (o := .tup vs.reverse) x1.gh nl
    exact q _ _ _ [] (x1.trans x4) (.p (.tup (.inl (.inl upd_same)) (p1.reverse.mono x4.gg)))
end M
noncomputable section
open PySem PySem.Spec PyProof.Rows L2 M
def Q.law_draws_L1 : SM := sCons (sSet 5 (mOp modT (mOp addT (mOp addT (mOp addT (mOp mulT (mVar 5) (mVar 5)) (mOp mulT (mC (.int 48271)) (mVar 5))) (mVar 6)) (mC (.int 1))) (mC (.int 2305843009213693951)))) (sIf (bAnd (bOp gtT (mVar 6) (mC (.int 2))) (bOp gtT (mVar 4) (mC (.int 0)))) (sCons (sAppend (pVar 3) (mOp modT (mVar 4) (mVar 2))) (sSet 4 (mOp fdivT (mVar 4) (mVar 2)))) (sIf (bOp gtT (mVar 6) (mC (.int 2))) (sAppend (pVar 3) (mOp modT (mOp fdivT (mVar 5) (mC (.int 4096))) (mVar 2))) (sNil)))
def Q.law_draws : List T → Option T := runFn 7 (sCons (sSetF 3 (mLstF (aNil))) (sCons (sSet 4 (mOp mulT (mVar 0) (mCall intT (aCons (mOp geT (mVar 0) (mOp powT (mC (.int 10)) (mC (.int 18)))) (aNil))))) (sCons (sSet 5 (mOp modT (mVar 0) (mC (.int 2305843009213693951)))) (sCons (sFor (iRng1 (mOp addT (mVar 1) (mC (.int 3)))) (gNm 6) (Q.law_draws_L1)) (sRetV 3)))))
def Q.law_cell_at : List T → Option T := runFn 2 (sCons (sIf (bOp ltT (mVar 1) (mCall lenT (aCons (mVar 0) (aNil)))) (sRet (mOp idxT (mVar 0) (mVar 1))) (sNil)) (sRet (mC (.int 0))))
def Q.law_best_good_L1 : SM := sCons (sSet 5 (mOp mulT (mOp addT (mC (.int 1)) (mOp modT (mOp idxT (mVar 1) (mVar 4)) (mC (.int 9)))) (mOp idxT (mVar 0) (mVar 3)))) (sIf (bOp gtT (mVar 5) (mOp mulT (mOp addT (mC (.int 1)) (mOp modT (mOp idxT (mVar 1) (mVar 3)) (mC (.int 9)))) (mOp idxT (mVar 0) (mVar 4)))) (sSet 3 (mVar 4)) (sNil))
def Q.law_best_good : List T → Option T := runFn 6 (sCons (sSet 3 (mC (.int 0))) (sCons (sFor (iRng1 (mCall lenT (aCons (mVar 0) (aNil)))) (gNm 4) (Q.law_best_good_L1)) (sRet (mLc (iRng1 (mCall lenT (aCons (mVar 0) (aNil)))) [4] (gNm 4) (bYes) (mOp mulT (mVar 2) (mCall intT (aCons (mOp eqT (mVar 4) (mVar 3)) (aNil))))))))
def Q.law_a_book_L1 : SM := sCons (sSet 10 (mCall (callT Q.law_draws) (aCons (mOp addT (mCall (callT Q.law_cell_at) (aCons (mVar 0) (aCons (mOp addT (mVar 1) (mC (.int 1))) (aNil)))) (mOp mulT (mVar 9) (mOp addT (mOp idxT (mVar 3) (mC (.int 6))) (mC (.int 1))))) (aCons (mC (.int 14)) (aCons (mOp powT (mC (.int 10)) (mC (.int 9))) (aNil)))))) (sCons (sSet 11 (mLc (iSeqB (mSlice (mVar 10) (oNone) (oSome (mVar 4)))) [15] (gNm 15) (bYes) (mOp addT (mC (.int 1)) (mOp modT (mVar 15) (mVar 6))))) (sCons (sSet 12 (mSlice (mVar 10) (oSome (mC (.int 6))) (oSome (mOp addT (mC (.int 6)) (mVar 4))))) (sCons (sSet 13 (mLc (iSeqB (mVar 12)) [15] (gNm 15) (bYes) (mOp mulT (mOp modT (mVar 15) (mOp addT (mVar 6) (mC (.int 1)))) (mCall intT (aCons (mOp gtT (mOp modT (mVar 15) (mC (.int 5))) (mC (.int 0))) (aNil)))))) (sCons (sIf (bOp eqT (mVar 7) (mC (.int 1))) (sSet 13 (mCall (callT Q.law_best_good) (aCons (mVar 11) (aCons (mSlice (mVar 3) (oSome (mC (.int 6))) (oSome (mOp addT (mC (.int 6)) (mVar 4)))) (aCons (mOp addT (mC (.int 1)) (mOp modT (mOp idxT (mVar 10) (mC (.int 12))) (mVar 6))) (aNil)))))) (sNil)) (sCons (sIf (bOp eqT (mVar 7) (mC (.int 2))) (sSet 13 (mLc (iSeqB (mVar 11)) [16] (gNm 16) (bYes) (mOp subT (mOp addT (mVar 6) (mC (.int 1))) (mVar 16)))) (sNil)) (sCons (sIf (bOp eqT (mOp modT (mOp idxT (mVar 10) (mC (.int 13))) (mC (.int 9))) (mC (.int 0))) (sSet 13 (mLc (iSeqB (mSlice (mVar 10) (oSome (mC (.int 6))) (oSome (mOp addT (mC (.int 6)) (mVar 4))))) [15] (gNm 15) (bYes) (mOp modT (mVar 15) (mVar 6)))) (sNil)) (sCons (sSetF 13 (mLcF (iSeqB (mVar 13)) [17] (gNm 17) (bYes) (mCall minT (aCons (mOp powT (mC (.int 10)) (mC (.int 6))) (aCons (mVar 17) (aNil)))))) (sCons (sIf (bOp eqT (mCall maxT (aCons (mVar 13) (aNil))) (mC (.int 0))) (sSetIx (pVar 13) (mOp modT (mOp idxT (mVar 10) (mC (.int 12))) (mVar 4)) (mC (.int 1))) (sNil)) (sFrz 13 (sCons (sSet 14 (mTup (aCons (mCall tupleT (aCons (mVar 11) (aNil))) (aCons (mCall tupleT (aCons (mVar 13) (aNil))) (aNil))))) (sCons (sIf (bAnd (bOp neT (mVar 8) (mLst (aNil))) (bOp eqT (mOp modT (mOp fdivT (mOp idxT (mVar 10) (mC (.int 13))) (mC (.int 9))) (mC (.int 7))) (mC (.int 0)))) (sSet 14 (mTup (aCons (mOp idxT (mVar 14) (mC (.int 0))) (aCons (mOp idxT (mOp idxT (mVar 8) (mOp modT (mOp fdivT (mOp idxT (mVar 10) (mC (.int 13))) (mC (.int 63))) (mCall lenT (aCons (mVar 8) (aNil))))) (mC (.int 1))) (aNil))))) (sNil)) (sAppend (pVar 8) (mVar 14)))))))))))))
def Q.law_a_book : List T → Option T := runFn 18 (sCons (sSet 3 (mCall (callT Q.law_draws) (aCons (mCall (callT Q.law_cell_at) (aCons (mVar 0) (aCons (mVar 1) (aNil)))) (aCons (mC (.int 12)) (aCons (mOp powT (mC (.int 10)) (mC (.int 6))) (aNil)))))) (sCons (sSet 4 (mOp idxT (mLst (aCons (mOp addT (mC (.int 1)) (mOp modT (mOp idxT (mVar 3) (mC (.int 0))) (mC (.int 6)))) (aCons (mC (.int 2)) (aCons (mOp addT (mC (.int 2)) (mOp modT (mOp idxT (mVar 3) (mC (.int 0))) (mC (.int 2)))) (aNil))))) (mOp modT (mOp idxT (mVar 3) (mC (.int 1))) (mC (.int 3))))) (sCons (sSet 5 (mOp idxT (mLst (aCons (mOp addT (mC (.int 1)) (mOp modT (mOp idxT (mVar 3) (mC (.int 2))) (mVar 2))) (aCons (mOp addT (mC (.int 1)) (mOp modT (mOp idxT (mVar 3) (mC (.int 2))) (mCall minT (aCons (mVar 2) (aCons (mC (.int 4)) (aNil)))))) (aNil)))) (mOp fdivT (mOp modT (mOp idxT (mVar 3) (mC (.int 3))) (mC (.int 3))) (mC (.int 2))))) (sCons (sSet 6 (mOp idxT (mLst (aCons (mC (.int 3)) (aCons (mC (.int 9)) (aCons (mC (.int 60)) (aCons (mOp powT (mC (.int 10)) (mC (.int 6))) (aNil)))))) (mOp modT (mOp idxT (mVar 3) (mC (.int 4))) (mC (.int 4))))) (sCons (sSet 7 (mOp modT (mOp idxT (mVar 3) (mC (.int 5))) (mC (.int 5)))) (sCons (sSetF 8 (mLstF (aNil))) (sCons (sFor (iRng1 (mVar 5)) (gNm 9) (Q.law_a_book_L1)) (sRetV 8))))))))
def Q.cost_at : List T → Option T := runFn 4 (sRet (mCall sumT (aCons (mLc (iZp (mVar 0) (mVar 1)) [2, 3] (gTp (gCn (gNm 2) (gCn (gNm 3) (gNl)))) (bYes) (mOp mulT (mVar 2) (mVar 3))) (aNil))))
def Q.costs_of_L1 : SM := sAppend (pVar 1) (mLc (iSeqB (mVar 0)) [4, 5] (gTp (gCn (gNm 4) (gCn (gNm 5) (gNl)))) (bYes) (mCall (callT Q.cost_at) (aCons (mVar 2) (aCons (mVar 5) (aNil)))))
def Q.costs_of : List T → Option T := runFn 6 (sCons (sSetF 1 (mLstF (aNil))) (sCons (sFor (iSeq (mVar 0)) (gTp (gCn (gNm 2) (gCn (gNm 3) (gNl)))) (Q.costs_of_L1)) (sRetV 1)))
def Q.divisor_L1 : SM := sPar 0 1 (aCons (mVar 1) (aCons (mOp modT (mVar 0) (mVar 1)) (aNil)))
def Q.divisor : List T → Option T := runFn 2 (sCons (sSet 0 (mCall absT (aCons (mVar 0) (aNil)))) (sCons (sSet 1 (mCall absT (aCons (mVar 1) (aNil)))) (sCons (sWhile FUEL (bOp gtT (mVar 1) (mC (.int 0))) (Q.divisor_L1)) (sRetV 0))))
def Q.fraction : List T → Option T := runFn 3 (sCons (sSet 2 (mCall (callT Q.divisor) (aCons (mVar 0) (aCons (mVar 1) (aNil))))) (sCons (sIf (bOp ltT (mVar 1) (mC (.int 0))) (sSet 2 (mOp subT (mC (.int 0)) (mVar 2))) (sNil)) (sRet (mTup (aCons (mOp fdivT (mVar 0) (mVar 2)) (aCons (mOp fdivT (mVar 1) (mVar 2)) (aNil)))))))
def Q.share_of : List T → Option T := runFn 3 (sRet (mCall (callT Q.fraction) (aCons (mOp idxT (mOp idxT (mVar 0) (mVar 1)) (mVar 2)) (aCons (mOp idxT (mOp idxT (mVar 0) (mVar 1)) (mVar 1)) (aNil)))))
def Q.is_less : List T → Option T := runFn 2 (sRet (mOp ltT (mOp mulT (mOp idxT (mVar 0) (mC (.int 0))) (mOp idxT (mVar 1) (mC (.int 1)))) (mOp mulT (mOp idxT (mVar 1) (mC (.int 0))) (mOp idxT (mVar 0) (mC (.int 1))))))
def Q.greater : List T → Option T := runFn 2 (sCons (sIf (bVal (mCall (callT Q.is_less) (aCons (mVar 0) (aCons (mVar 1) (aNil))))) (sRetV 1) (sNil)) (sRetV 0))
def Q.least_through_L1 : SM := sCons (sSet 6 (mCall (callT Q.greater) (aCons (mOp idxT (mOp idxT (mVar 2) (mVar 4)) (mVar 3)) (aCons (mOp idxT (mOp idxT (mVar 2) (mVar 3)) (mVar 5)) (aNil))))) (sIf (bAnd (bOp neT (mVar 4) (mVar 5)) (bAnd (bOp notInT (mVar 3) (mTup (aCons (mVar 4) (aCons (mVar 5) (aNil))))) (bVal (mCall (callT Q.is_less) (aCons (mVar 6) (aCons (mOp idxT (mOp idxT (mVar 2) (mVar 4)) (mVar 5)) (aNil))))))) (sSetIx (pIx (pVar 2) (mVar 4)) (mVar 5) (mVar 6)) (sNil))
def Q.least_through_L2 : SM := sFor (iSeq (mVar 1)) (gNm 5) (Q.least_through_L1)
def Q.least_through_L3 : SM := sFor (iSeq (mVar 1)) (gNm 4) (Q.least_through_L2)
def Q.least_through : List T → Option T := runFn 8 (sCons (sSet 1 (mListR1 (mCall lenT (aCons (mVar 0) (aNil))))) (sCons (sSetF 2 (mLcT (iSeqB (mVar 0)) [7] (gNm 7) (bYes) (mListF (mVar 7)))) (sCons (sFor (iSeq (mVar 1)) (gNm 3) (Q.least_through_L3)) (sRetV 2))))
def Q.way_between_L1 : SM := sIf (bAnd (bVal (mOp idxT (mOp idxT (mVar 0) (mVar 5)) (mVar 6))) (bOp dNotInT (mVar 6) (mVar 3))) (sCons (sDPut 3 (mVar 6) (mVar 5)) (sAppend (pVar 4) (mVar 6))) (sNil)
def Q.way_between_L2 : SM := sCons (sSetPopAt 5 (pVar 4) (mC (.int 0))) (sFor (iRng1 (mCall lenT (aCons (mVar 0) (aNil)))) (gNm 6) (Q.way_between_L1))
def Q.way_between_L3 : SM := sInsert (pVar 7) (mC (.int 0)) (mOp dGetT (mVar 3) (mOp idxT (mVar 7) (mC (.int 0))))
def Q.way_between : List T → Option T := runFn 8 (sCons (sSetF 3 (mDOne (mVar 1) (mC .none))) (sCons (sSetF 4 (mLstF (aCons (mPure (mVar 1)) (aNil)))) (sCons (sWhile FUEL (bAnd (bOp neT (mVar 4) (mLst (aNil))) (bOp dNotInT (mVar 2) (mVar 3))) (Q.way_between_L2)) (sCons (sIf (bOp dNotInT (mVar 2) (mVar 3)) (sRet (mC .none)) (sNil)) (sCons (sSetF 7 (mLstF (aCons (mPure (mVar 2)) (aNil)))) (sCons (sWhile FUEL (bOp neT (mOp idxT (mVar 7) (mC (.int 0))) (mVar 1)) (Q.way_between_L3)) (sRetV 7)))))))
def Q.leak_L1 : SM := sAppend (pVar 3) (mLc (iSeqB (mVar 2)) [7] (gNm 7) (bYes) (mCall (callT Q.share_of) (aCons (mVar 1) (aCons (mVar 4) (aCons (mVar 7) (aNil))))))
def Q.leak_L2 : SM := sIf (bOp neT (mVar 4) (mVar 7)) (sCons (sSet 8 (mCall (callT Q.greater) (aCons (mOp idxT (mOp idxT (mVar 5) (mVar 4)) (mVar 7)) (aCons (mOp idxT (mOp idxT (mVar 3) (mVar 7)) (mVar 4)) (aNil))))) (sIf (bOr (bOp isnT (mVar 6) (mC .none)) (bVal (mCall (callT Q.is_less) (aCons (mVar 8) (aCons (mOp idxT (mVar 6) (mC (.int 0))) (aNil)))))) (sSet 6 (mTup (aCons (mVar 8) (aCons (mVar 4) (aCons (mVar 7) (aNil)))))) (sNil))) (sNil)
def Q.leak_L3 : SM := sFor (iSeq (mVar 2)) (gNm 7) (Q.leak_L2)
def Q.leak_L4 : SM := sAppend (pVar 10) (mLc (iSeqB (mVar 2)) [12] (gNm 12) (bYes) (mAnd (mOp neT (mVar 12) (mVar 11)) (mNot (mCall (callT Q.is_less) (aCons (mVar 9) (aCons (mOp idxT (mOp idxT (mVar 3) (mVar 11)) (mVar 12)) (aNil)))))))
def Q.leak : List T → Option T := runFn 13 (sCons (sIf (bOp ltT (mCall lenT (aCons (mVar 0) (aNil))) (mC (.int 2))) (sRet (mC .none)) (sNil)) (sCons (sSet 1 (mCall (callT Q.costs_of) (aCons (mVar 0) (aNil)))) (sCons (sSet 2 (mListR1 (mCall lenT (aCons (mVar 0) (aNil))))) (sCons (sSetF 3 (mLstF (aNil))) (sCons (sFor (iSeq (mVar 2)) (gNm 4) (Q.leak_L1)) (sFrz 3 (sCons (sSet 5 (mCall (callT Q.least_through) (aCons (mVar 3) (aNil)))) (sCons (sSet 6 (mC .none)) (sCons (sFor (iSeq (mVar 2)) (gNm 4) (Q.leak_L3)) (sCons (sAsg (gTp (gCn (gNm 9) (gCn (gNm 4) (gCn (gNm 7) (gNl))))) (mVar 6)) (sCons (sSetF 10 (mLstF (aNil))) (sCons (sFor (iSeq (mVar 2)) (gNm 11) (Q.leak_L4)) (sFrz 10 (sRet (mTup (aCons (mVar 9) (aCons (mCall (callT Q.way_between) (aCons (mVar 10) (aCons (mVar 4) (aCons (mVar 7) (aNil))))) (aNil))))))))))))))))))
def Q.law_less : List T → Option T := runFn 2 (sRet (mOp ltT (mOp mulT (mOp idxT (mVar 0) (mC (.int 0))) (mOp idxT (mVar 1) (mC (.int 1)))) (mOp mulT (mOp idxT (mVar 1) (mC (.int 0))) (mOp idxT (mVar 0) (mC (.int 1))))))
def Q.law_a_share_L1 : SM := sCons (sSet 4 (mOp idxT (mVar 1) (mOp subT (mVar 3) (mC (.int 1))))) (sCons (sSet 5 (mTup (aCons (mOp idxT (mOp idxT (mVar 0) (mVar 4)) (mOp idxT (mVar 1) (mVar 3))) (aCons (mOp idxT (mOp idxT (mVar 0) (mVar 4)) (mVar 4)) (aNil))))) (sIf (bVal (mCall (callT Q.law_less) (aCons (mVar 2) (aCons (mVar 5) (aNil))))) (sSet 2 (mVar 5)) (sNil)))
def Q.law_a_share : List T → Option T := runFn 6 (sCons (sSet 2 (mTup (aCons (mC (.int 0)) (aCons (mC (.int 1)) (aNil))))) (sCons (sFor (iRng1 (mCall lenT (aCons (mVar 1) (aNil)))) (gNm 3) (Q.law_a_share_L1)) (sRetV 2)))
def Q.law_cost_L1 : SM := sSet 2 (mOp addT (mVar 2) (mOp mulT (mOp idxT (mVar 0) (mVar 3)) (mOp idxT (mVar 1) (mVar 3))))
def Q.law_cost : List T → Option T := runFn 4 (sCons (sSet 2 (mC (.int 0))) (sCons (sFor (iRng1 (mCall lenT (aCons (mVar 0) (aNil)))) (gNm 3) (Q.law_cost_L1)) (sRetV 2)))
def Q.law_a_costs_L1 : SM := sAppend (pVar 1) (mLc (iSeqB (mVar 0)) [4] (gNm 4) (bYes) (mCall (callT Q.law_cost) (aCons (mVar 2) (aCons (mOp idxT (mVar 4) (mC (.int 1))) (aNil)))))
def Q.law_a_costs : List T → Option T := runFn 5 (sCons (sSetF 1 (mLstF (aNil))) (sCons (sFor (iSeq (mVar 0)) (gTp (gCn (gNm 2) (gCn (gNm 3) (gNl)))) (Q.law_a_costs_L1)) (sRetV 1)))
def Q.k36_law : List T → Option T := runFn 15 (sCons (sSet 1 (mCall (callT Q.law_a_book) (aCons (mVar 0) (aCons (mC (.int 0)) (aCons (mC (.int 10)) (aNil)))))) (sCons (sSet 1 (mOp addT (mVar 1) (mLst (aCons (mTup (aCons (mRevT (mOp idxT (mOp idxT (mVar 1) (mC (.int 0))) (mC (.int 0)))) (aCons (mOp idxT (mOp idxT (mVar 1) (mNeg (mC (.int 1)))) (mC (.int 1))) (aNil)))) (aNil))))) (sCons (sSet 2 (mCall (callT Q.law_draws) (aCons (mCall (callT Q.law_cell_at) (aCons (mVar 0) (aCons (mC (.int 2)) (aNil)))) (aCons (mC (.int 4)) (aCons (mC (.int 1000)) (aNil)))))) (sCons (sAsg (gTp (gCn (gNm 3) (gCn (gNm 4) (gNl)))) (mCall (callT Q.leak) (aCons (mVar 1) (aNil)))) (sCons (sSet 5 (mOp modT (mOp idxT (mVar 2) (mC (.int 0))) (mCall lenT (aCons (mVar 1) (aNil))))) (sCons (sAsg (gTp (gCn (gNm 6) (gCn (gNm 7) (gNl)))) (mOp idxT (mVar 1) (mVar 5))) (sCons (sSet 8 (mOp addT (mC (.int 1)) (mOp modT (mOp idxT (mVar 2) (mC (.int 1))) (mCall maxT (aCons (mC (.int 1)) (aCons (mCall minT (aCons (mC (.int 90)) (aCons (mOp fdivT (mOp powT (mC (.int 10)) (mC (.int 6))) (mCall maxT (aCons (mVar 6) (aNil)))) (aNil)))) (aNil))))))) (sCons (sSetF 9 (mListF (mVar 1))) (sCons (sSetIx (pVar 9) (mVar 5) (mTup (aCons (mCall tupleT (aCons (mLc (iSeqB (mVar 6)) [13] (gNm 13) (bYes) (mOp mulT (mVar 13) (mVar 8))) (aNil))) (aCons (mVar 7) (aNil))))) (sFrz 9 (sCons (sIf (bOr (bOp neT (mOp idxT (mCall (callT Q.leak) (aCons (mVar 9) (aNil))) (mC (.int 0))) (mVar 3)) (bOp neT (mOp idxT (mCall (callT Q.leak) (aCons (mOp addT (mSlice (mVar 1) (oSome (mVar 5)) (oNone)) (mSlice (mVar 1) (oNone) (oSome (mVar 5)))) (aNil))) (mC (.int 0))) (mVar 3))) (sRet (mC (.bool false))) (sNil)) (sCons (sSet 10 (mOp idxT (mCall (callT Q.leak) (aCons (mOp addT (mVar 1) (mLst (aCons (mOp idxT (mVar 1) (mVar 5)) (aNil)))) (aNil))) (mC (.int 0)))) (sCons (sIf (bOp neT (mVar 10) (mOp idxT (mLst (aCons (mVar 3) (aCons (mTup (aCons (mC (.int 1)) (aCons (mC (.int 1)) (aNil)))) (aNil)))) (mCall intT (aCons (mCall (callT Q.law_less) (aCons (mTup (aCons (mC (.int 1)) (aCons (mC (.int 1)) (aNil)))) (aCons (mVar 3) (aNil)))) (aNil))))) (sRet (mC (.bool false))) (sNil)) (sCons (sIf (bAnd (bOp gtT (mCall lenT (aCons (mVar 1) (aNil))) (mC (.int 2))) (bVal (mCall (callT Q.law_less) (aCons (mOp idxT (mCall (callT Q.leak) (aCons (mOp addT (mSlice (mVar 1) (oNone) (oSome (mVar 5))) (mSlice (mVar 1) (oSome (mOp addT (mVar 5) (mC (.int 1)))) (oNone))) (aNil))) (mC (.int 0))) (aCons (mVar 3) (aNil)))))) (sRet (mC (.bool false))) (sNil)) (sCons (sSet 11 (mLc (iSeqB (mVar 4)) [14] (gNm 14) (bYes) (mOp subT (mOp subT (mCall lenT (aCons (mVar 1) (aNil))) (mC (.int 1))) (mVar 14)))) (sCons (sSet 12 (mCall (callT Q.law_a_share) (aCons (mCall (callT Q.law_a_costs) (aCons (mRevT (mVar 1)) (aNil))) (aCons (mVar 11) (aNil))))) (sRet (mAnd (mNot (mCall (callT Q.law_less) (aCons (mVar 12) (aCons (mVar 3) (aNil))))) (mNot (mCall (callT Q.law_less) (aCons (mVar 3) (aCons (mVar 12) (aNil)))))))))))))))))))))))
def Q.is_buying : List T → Option T := runFn 5 (sCons (sAsg (gTp (gCn (gNm 1) (gCn (gNm 2) (gNl)))) (mVar 0)) (sCons (sIf (bOr (bNot (bVal (mChain leT leT (mC (.int 1)) (mCall lenT (aCons (mVar 1) (aNil))) (mC (.int 6))))) (bOp neT (mCall lenT (aCons (mVar 1) (aNil))) (mCall lenT (aCons (mVar 2) (aNil))))) (sRet (mC (.bool false))) (sNil)) (sCons (sIf (bNot (bVal (mCall allT (aCons (mLc (iSeqB (mVar 1)) [3] (gNm 3) (bYes) (mChain leT leT (mC (.int 1)) (mVar 3) (mC (.int 1000000)))) (aNil))))) (sRet (mC (.bool false))) (sNil)) (sRet (mAnd (mCall allT (aCons (mLc (iSeqB (mVar 2)) [4] (gNm 4) (bYes) (mChain leT leT (mC (.int 0)) (mVar 4) (mC (.int 1000000)))) (aNil))) (mOp gtT (mCall maxT (aCons (mVar 2) (aNil))) (mC (.int 0))))))))
def Q.is_book : List T → Option T := runFn 2 (sCons (sIf (bOr (bNot (bVal (mChain leT leT (mC (.int 1)) (mCall lenT (aCons (mVar 0) (aNil))) (mC (.int 12))))) (bNot (bVal (mCall allT (aCons (mLc (iSeqB (mVar 0)) [1] (gNm 1) (bYes) (mCall (callT Q.is_buying) (aCons (mVar 1) (aNil)))) (aNil)))))) (sRet (mC (.bool false))) (sNil)) (sRet (mCall allT (aCons (mLc (iSeqB (mVar 0)) [1] (gNm 1) (bYes) (mOp eqT (mCall lenT (aCons (mOp idxT (mVar 1) (mC (.int 0))) (aNil))) (mCall lenT (aCons (mOp idxT (mOp idxT (mVar 0) (mC (.int 0))) (mC (.int 0))) (aNil))))) (aNil)))))
def Q.law_due_L1 : SM := sCons (sIf (bOr (bNot (bVal (mChain leT leT (mC (.int 1)) (mCall lenT (aCons (mVar 1) (aNil))) (mC (.int 6))))) (bOp neT (mCall lenT (aCons (mVar 1) (aNil))) (mCall lenT (aCons (mVar 2) (aNil))))) (sRet (mC (.bool false))) (sNil)) (sCons (sIf (bOr (bOp neT (mCall lenT (aCons (mVar 1) (aNil))) (mCall lenT (aCons (mOp idxT (mOp idxT (mVar 0) (mC (.int 0))) (mC (.int 0))) (aNil)))) (bOp gtT (mCall maxT (aCons (mOp addT (mVar 1) (mVar 2)) (aNil))) (mOp powT (mC (.int 10)) (mC (.int 6))))) (sRet (mC (.bool false))) (sNil)) (sIf (bOr (bOp ltT (mCall minT (aCons (mVar 1) (aNil))) (mC (.int 1))) (bOr (bOp ltT (mCall minT (aCons (mVar 2) (aNil))) (mC (.int 0))) (bOp ltT (mCall maxT (aCons (mVar 2) (aNil))) (mC (.int 1))))) (sRet (mC (.bool false))) (sNil)))
def Q.law_due : List T → Option T := runFn 3 (sCons (sIf (bOr (bOp ltT (mCall lenT (aCons (mVar 0) (aNil))) (mC (.int 1))) (bOp gtT (mCall lenT (aCons (mVar 0) (aNil))) (mC (.int 12)))) (sRet (mC (.bool false))) (sNil)) (sCons (sFor (iSeq (mVar 0)) (gTp (gCn (gNm 1) (gCn (gNm 2) (gNl)))) (Q.law_due_L1)) (sRet (mC (.bool true)))))
def Q.plus : List T → Option T := runFn 2 (sRet (mCall (callT Q.fraction) (aCons (mOp addT (mOp mulT (mOp idxT (mVar 0) (mC (.int 0))) (mOp idxT (mVar 1) (mC (.int 1)))) (mOp mulT (mOp idxT (mVar 1) (mC (.int 0))) (mOp idxT (mVar 0) (mC (.int 1))))) (aCons (mOp mulT (mOp idxT (mVar 0) (mC (.int 1))) (mOp idxT (mVar 1) (mC (.int 1)))) (aNil)))))
def Q.minus : List T → Option T := runFn 2 (sRet (mCall (callT Q.fraction) (aCons (mOp subT (mOp mulT (mOp idxT (mVar 0) (mC (.int 0))) (mOp idxT (mVar 1) (mC (.int 1)))) (mOp mulT (mOp idxT (mVar 1) (mC (.int 0))) (mOp idxT (mVar 0) (mC (.int 1))))) (aCons (mOp mulT (mOp idxT (mVar 0) (mC (.int 1))) (mOp idxT (mVar 1) (mC (.int 1)))) (aNil)))))
def Q.times : List T → Option T := runFn 2 (sRet (mCall (callT Q.fraction) (aCons (mOp mulT (mOp idxT (mVar 0) (mC (.int 0))) (mVar 1)) (aCons (mOp idxT (mVar 0) (mC (.int 1))) (aNil)))))
def Q.over : List T → Option T := runFn 2 (sRet (mCall (callT Q.fraction) (aCons (mOp idxT (mVar 0) (mC (.int 0))) (aCons (mOp mulT (mOp idxT (mVar 0) (mC (.int 1))) (mVar 1)) (aNil)))))
def Q.lesser : List T → Option T := runFn 2 (sCons (sIf (bVal (mCall (callT Q.is_less) (aCons (mVar 1) (aCons (mVar 0) (aNil))))) (sRetV 1) (sNil)) (sRetV 0))
end
/-! N1: plain code over data, which mirrors carry out. -/
namespace N
open PySem PySem.Spec PyProof.Rows L2 M

/-! ### plain expressions -/
def op2 (f : T → T → Option T) (a b : D) : Option D := (f (.p a) (.p b)).bind T.pure?
def xop (f : T → T → Option T) (p q : Option D) : Option D := p.bind fun a => q.bind fun b => op2 f a b
def xf1 (f : List T → Option T) (p : Option D) : Option D := p.bind fun a => (f [.p a]).bind T.pure?
def xf2 (f : List T → Option T) (p q : Option D) : Option D := p.bind fun a => q.bind fun b => (f [.p a, .p b]).bind T.pure?
def xseq : List (Option D) → Option (List D)
  | [] => some []
  | p :: r => p.bind fun a => (xseq r).map fun as => a :: as
def xtup (l : List (Option D)) : Option D := (xseq l).map PyData.tuple
def xlst (l : List (Option D)) : Option D := (xseq l).map PyData.list
def boolD? : D → Option Bool
  | .bool b => some b
  | _ => none
def intD? : D → Option Int
  | .int i => some i
  | _ => none
def seqD? : D → Option (List D)
  | .list ds => some ds
  | .tuple ds => some ds
  | _ => none
def xbool (p : Option D) : Option Bool := p.bind boolD?
def xif {R : Type} (c : Option Bool) (a b : Option R) : Option R := c.bind fun x => if x then a else b
def xand (a b : Option Bool) : Option Bool := xif a b (some false)
def xor' (a b : Option Bool) : Option Bool := xif a (some true) b
def xnot (a : Option Bool) : Option Bool := a.map fun x => !x
def xmand (p q : Option D) : Option D := xif (xbool p) q (some (.bool false))
def xmor (p q : Option D) : Option D := xif (xbool p) (some (.bool true)) q
def xmnot (p : Option D) : Option D := (xbool p).map fun c => .bool (!c)
def xmorL (p q : Option D) : Option D := p.bind fun d => (seqD? d).bind fun ds => if ds.isEmpty = true then q else some d
def xchain (f g : T → T → Option T) (p q r : Option D) : Option D := p.bind fun x => q.bind fun y => xif (xbool (op2 f x y)) (r.bind fun u => op2 g y u) (some (.bool false))
def xneg (p : Option D) : Option D := p.bind fun d => (intD? d).map fun i => .int (-i)
def xint (p : Option D) : Option (Option Int) := p.bind fun d => (intD? d).map some
def xslice (p : Option D) (lo hi : Option (Option Int)) : Option D := p.bind fun d => lo.bind fun a => hi.bind fun b => (sliceT (.p d) a b).bind T.pure?
def xrev (p : Option D) : Option D := p.bind fun d => match d with
  | .list ds => some (.list ds.reverse)
  | .tuple ds => some (.tuple ds.reverse)
  | _ => none
def xlistR (p : Option D) : Option D := p.bind fun d => (intD? d).bind fun j => if j ≤ 1000000 ∧ -1000000 ≤ j then some (.list (rangeD 0 j)) else none
def xisi (n : String) (p : Option D) : Option D := p.map fun d => .bool (isi (tyN d) n)
def ap1 {α R : Type} (f : α → Option R) (p : Option α) : Option R := p.bind f
def ap2 {α β R : Type} (f : α → β → Option R) (p : Option α) (q : Option β) : Option R := p.bind fun a => q.bind fun b => f a b
def ap3 {α β γ R : Type} (f : α → β → γ → Option R) (p : Option α) (q : Option β) (r : Option γ) : Option R := p.bind fun a => q.bind fun b => r.bind fun c => f a b c
def ap4 {α β γ δ R : Type} (f : α → β → γ → δ → Option R) (p : Option α) (q : Option β) (r : Option γ) (s : Option δ) : Option R := p.bind fun a => q.bind fun b => r.bind fun c => s.bind fun d => f a b c d
def ap5 {α β γ δ ε R : Type} (f : α → β → γ → δ → ε → Option R) (p : Option α) (q : Option β) (r : Option γ) (s : Option δ) (t : Option ε) : Option R := p.bind fun a => q.bind fun b => r.bind fun c => s.bind fun d => t.bind fun e => f a b c d e
def ap6 {α β γ δ ε ζ R : Type} (f : α → β → γ → δ → ε → ζ → Option R) (p : Option α) (q : Option β) (r : Option γ) (s : Option δ) (t : Option ε) (u : Option ζ) : Option R := p.bind fun a => q.bind fun b => r.bind fun c => s.bind fun d => t.bind fun e => u.bind fun g => f a b c d e g
/-- an old mirror, as it is -/
def qc (fn : List T → Option T) (ts : List T) : Option D := (callT fn ts).bind T.pure?
/-! tuples taken apart -/
def un2 {R : Type} (d : D) (k : D → D → Option R) : Option R := match d with
  | .tuple [a, b] => k a b
  | _ => none
def un3 {R : Type} (d : D) (k : D → D → D → Option R) : Option R := match d with
  | .tuple [a, b, c] => k a b c
  | _ => none
def un4 {R : Type} (d : D) (k : D → D → D → D → Option R) : Option R := match d with
  | .tuple [a, b, c, e] => k a b c e
  | _ => none
/-! what is walked -/
def iseq (p : Option D) : Option (List D) := p.bind seqD?
def irng1 (p : Option D) : Option (List D) := p.bind fun d => (intD? d).bind fun j => if smallI j then some (rangeD 0 j) else none
def irng2 (p q : Option D) : Option (List D) := p.bind fun d => (intD? d).bind fun i => q.bind fun e => (intD? e).bind fun j => if smallI i ∧ smallI j then some (rangeD i j) else none
def izip (p q : Option D) : Option (List D) := p.bind fun a => q.bind fun b => match a, b with
  | .list xs, .list ys => some (zipD xs ys)
  | .tuple xs, .tuple ys => some (zipD xs ys)
  | _, _ => none
def ienum (p : Option D) : Option (List D) := p.bind fun a => match a with
  | .list xs => some (enumD 0 xs)
  | _ => none
/-- a comprehension: none of an item, or what it gives -/
def lcP (h : D → Option (Option D)) : List D → Option (List D)
  | [] => some []
  | d :: r => (h d).bind fun y => (lcP h r).map fun ys => match y with
    | none => ys
    | some y => y :: ys
def mapP (h : D → Option D) : List D → Option (List D)
  | [] => some []
  | d :: r => (h d).bind fun y => (mapP h r).map fun ys => y :: ys
def xflt (c : Option Bool) (p : Option D) : Option (Option D) := xif c (p.map some) (some none)
def lim (p : Option (List D)) : Option (List D) := p.bind fun ds => if ds.length ≤ LIM then some ds else none
def xlc (h : D → Option (Option D)) (q : Option (List D)) : Option D := (lim (q.bind (lcP h))).map PyData.list
def xmap (h : D → Option D) (q : Option (List D)) : Option D := (lim (q.bind (mapP h))).map PyData.list

/-! ### trees of plain values -/
def own1 (xs : List D) : T := .ml (xs.map T.p)
def own2 (xs : List (List D)) : T := .ml (xs.map own1)
theorem snap_own1 (xs : List D) : (own1 xs).snap = some (.list xs) := by simp [own1, T.snap, snaps_p]
theorem snaps_own : ∀ xs : List (List D), snaps (xs.map own1) = some (xs.map PyData.list)
  | [] => by simp [snaps]
  | x :: r => by simp [snaps, snap_own1, snaps_own r]
theorem snap_own2 (xs : List (List D)) : (own2 xs).snap = some (.list (xs.map PyData.list)) := by simp [own2, T.snap, snaps_own]
inductive W1 : T → D → Prop
  | p (d : D) : W1 (.p d) d
  | o (xs : List D) : W1 (own1 xs) (.list xs)
theorem W1.snap {t : T} {d : D} (h : W1 t d) : t.snap = some d := by
  cases h with
  | p => simp
  | o xs => exact snap_own1 xs
theorem W1.any {t : T} {d : D} (h : W1 t d) {ds : List D} (e : (T.p d).any? = some ds) : t.any? = some ds := by
  cases h with
  | p => exact e
  | o xs =>
    simp only [ev_anyl, Option.some.injEq] at e
    subst e
    simp [own1, T.any?, T.seq?, pures_map]
theorem W1.seq {t : T} {d : D} (h : W1 t d) {ds : List D} (e : (T.p d).seq? = some ds) : t.seq? = some ds := by
  cases h with
  | p => exact e
  | o xs =>
    simp only [ev_seql, Option.some.injEq] at e
    subst e
    simp [own1, T.seq?, pures_map]

/-! ### what mirrors carry out -/
def EG {α : Type} (τ : α → T) (m : EM) (env : En) (p : Option α) : Prop := ∀ a, p = some a → m env = some (τ a)
abbrev EX := EG T.p
def EW (m : EM) (env : En) (p : Option D) : Prop := ∀ d, p = some d → ∃ t, m env = some t ∧ W1 t d
def BX (m : En → Option Bool) (env : En) (p : Option Bool) : Prop := ∀ b, p = some b → m env = some b
def AX (m : En → Option (List T)) (env : En) (p : Option (List D)) : Prop := ∀ ds, p = some ds → m env = some (ds.map T.p)
def OX (m : OM) (env : En) (p : Option (Option Int)) : Prop := ∀ o, p = some o → m env = some o
def IX (m : En → Option (List D)) (env : En) (p : Option (List D)) : Prop := ∀ ds, p = some ds → m env = some ds
def FR {R : Type} (RT : R → T → Prop) (x : Option T) (p : Option R) : Prop := ∀ d, p = some d → ∃ t, x = some t ∧ RT d t
def RTp (d : D) (t : T) : Prop := t = .p d
def RTo (d : D) (t : T) : Prop := ∃ xs, d = .list xs ∧ t = own1 xs
def RTs (d : D) (t : T) : Prop := t.snap = some d
theorem rts_p (d : D) : RTs d (.p d) := by simp [RTs]
theorem FR.ps {x : Option T} {p : Option D} (h : FR RTp x p) : FR RTs x p := fun d e => by
  obtain ⟨t, h1, rfl⟩ := h d e
  exact ⟨_, h1, by simp [RTs]⟩
theorem FR.os {x : Option T} {p : Option D} (h : FR RTo x p) : FR RTs x p := fun d e => by
  obtain ⟨t, h1, xs, rfl, rfl⟩ := h d e
  exact ⟨_, h1, snap_own1 xs⟩

section
variable {env : En} {m m1 m2 m3 : EM} {p q r : Option D} {f g : T → T → Option T}
theorem pure_eq {t : T} {d : D} (h : t.pure? = some d) : t = .p d := by
  cases t with
  | p d' => simp [T.pure?] at h; rw [h]
  | _ => simp [T.pure?] at h
theorem bind_pure {x : Option T} {d : D} (h : x.bind T.pure? = some d) : x = some (.p d) := by
  cases x with
  | none => simp at h
  | some t => simp only [Option.bind_some] at h; rw [pure_eq h]
theorem bs {α β : Type} {x : Option α} {k : α → Option β} {b : β} (h : x.bind k = some b) : ∃ a, x = some a ∧ k a = some b := by
  cases x with
  | none => simp at h
  | some a => exact ⟨a, rfl, h⟩
theorem EG.w (h : EX m env p) : EW m env p := fun d e => ⟨_, h d e, .p d⟩
theorem EG.o {p : Option (List D)} (h : EG own1 m env p) : EW m env (p.map PyData.list) := fun d e => by
  simp only [Option.map_eq_some_iff] at e
  obtain ⟨xs, e, rfl⟩ := e
  exact ⟨_, h xs e, .o xs⟩
theorem e_var {α : Type} {τ : α → T} {i : Nat} {a : α} (h : ((env[i]?).join).map T.strip = some (τ a)) : EG τ (mVar i) env (some a) := fun b e => by
  simp only [Option.some.injEq] at e; subst e; exact h
theorem e_may {i : Nat} {x : Option D} (h : (env[i]?).join = x.map T.p) : EX (mVar i) env x := fun b e => by
  simp only [mVar, h, e, Option.map_some, strip_p]
theorem e_ow {i : Nat} {xs : List D} (h : ((env[i]?).join).map T.strip = some (own1 xs)) : EW (mVar i) env (some (.list xs)) := fun b e => by
  simp only [Option.some.injEq] at e; subst e; exact ⟨_, h, .o xs⟩
theorem e_c {d : D} : EX (mC d) env (some d) := fun b e => by
  simp only [Option.some.injEq] at e; subst e; rfl
theorem e_op (h1 : EX m1 env p) (h2 : EX m2 env q) : EX (mOp f m1 m2) env (xop f p q) := fun d e => by
  obtain ⟨a, ea, e⟩ := bs e
  obtain ⟨b, eb, e⟩ := bs e
  simp only [mOp, h1 a ea, h2 b eb, Option.bind_some]
  exact bind_pure e
def V2 (f : T → T → Option T) : Prop := ∀ t1 t2 d1 d2 x, W1 t1 d1 → W1 t2 d2 → op2 f d1 d2 = some x → f t1 t2 = some (.p x)
theorem e_opw (v : V2 f) (h1 : EW m1 env p) (h2 : EW m2 env q) : EX (mOp f m1 m2) env (xop f p q) := fun d e => by
  obtain ⟨a, ea, e⟩ := bs e
  obtain ⟨b, eb, e⟩ := bs e
  obtain ⟨t1, e1, w1⟩ := h1 a ea
  obtain ⟨t2, e2, w2⟩ := h2 b eb
  simp only [mOp, e1, e2, Option.bind_some]
  exact v _ _ _ _ _ w1 w2 e
theorem v2_eq : V2 M.eqT := fun t1 t2 d1 d2 x w1 w2 e => by
  have e := bind_pure e
  simp only [M.eqT, w1.snap, w2.snap, ev_snap, Option.bind_some] at e ⊢
  exact e
theorem v2_ne : V2 M.neT := fun t1 t2 d1 d2 x w1 w2 e => by
  have e := bind_pure e
  simp only [M.neT, w1.snap, w2.snap, ev_snap, Option.bind_some] at e ⊢
  exact e
theorem v2_ix : V2 idxT := fun t1 t2 d1 d2 x w1 w2 e => by
  cases w2 with
  | o xs => simp [op2, idxT, T.int?] at e
  | p d2 =>
    cases w1 with
    | p => exact bind_pure e
    | o xs =>
      have e := bind_pure e
      cases d2 with
      | int i =>
        simp only [ev_ixl] at e
        simp only [own1, ev_ixm]
        rw [show atI (xs.map T.p) i = (atI xs i).map T.p by
          simp only [atI, List.length_map]
          cases ixN xs.length i <;> simp [List.getElem?_map]]
        exact e
      | _ => simp [idxT, T.int?] at e
theorem v2_in : V2 inT := fun t1 t2 d1 d2 x w1 w2 e => by
  have e := bind_pure e
  cases w1 with
  | o xs =>
    simp only [inT, ev_pure, Option.bind_some] at e
    obtain ⟨ds, _, e⟩ := bs e
    simp [flatD] at e
  | p =>
    simp only [inT, ev_pure, Option.bind_some] at e ⊢
    obtain ⟨ds, e1, e⟩ := bs e
    rw [w2.any e1]
    exact e
theorem v2_notIn : V2 notInT := fun t1 t2 d1 d2 x w1 w2 e => by
  have e := bind_pure e
  cases w1 with
  | o xs =>
    simp only [notInT, ev_pure, Option.bind_some] at e
    obtain ⟨ds, _, e⟩ := bs e
    simp [flatD] at e
  | p =>
    simp only [notInT, ev_pure, Option.bind_some] at e ⊢
    obtain ⟨ds, e1, e⟩ := bs e
    rw [w2.any e1]
    exact e
theorem v2_add : V2 addT := fun t1 t2 d1 d2 x w1 w2 e => by
  have e := bind_pure e
  have l1 : ∀ {t : T} {d : D}, W1 t d → t.int? = (T.p d).int? ∧ t.lst? = (T.p d).lst? ∧ t.ptup? = (T.p d).ptup? := by
    intro t d w
    cases w with
    | p => exact ⟨rfl, rfl, rfl⟩
    | o xs => exact ⟨rfl, by simp [own1, T.lst?, pures_map], rfl⟩
  have a := l1 w1
  have b := l1 w2
  cases w1 with
  | p =>
    cases w2 with
    | p => exact e
    | o ys =>
      unfold addT at e ⊢
      rw [b.1, b.2.1, b.2.2]
      cases d1 <;> simp_all [T.int?, T.lst?, T.ptup?]
  | o xs =>
    unfold addT at e ⊢
    rw [a.1, a.2.1, a.2.2, b.1, b.2.1, b.2.2]
    cases w2 with
    | p => cases d2 <;> simp_all [T.int?, T.lst?, T.ptup?]
    | o ys => simp_all [T.int?, T.lst?, T.ptup?]
/-! calls of built-ins -/
theorem e_f1 {f : List T → Option T} (h : EX m env p) : EX (mCall f (aCons m aNil)) env (xf1 f p) := fun d e => by
  obtain ⟨a, ea, e⟩ := bs e
  simp only [mCall, aCons, aNil, h a ea, Option.bind_some, Option.map_some]
  exact bind_pure e
theorem e_f2 {f : List T → Option T} (h1 : EX m1 env p) (h2 : EX m2 env q) : EX (mCall f (aCons m1 (aCons m2 aNil))) env (xf2 f p q) := fun d e => by
  obtain ⟨a, ea, e⟩ := bs e
  obtain ⟨b, eb, e⟩ := bs e
  simp only [mCall, aCons, aNil, h1 a ea, h2 b eb, Option.bind_some, Option.map_some]
  exact bind_pure e
def V1 (f : List T → Option T) : Prop := ∀ t d x, W1 t d → (f [.p d]).bind T.pure? = some x → f [t] = some (.p x)
theorem e_f1w {f : List T → Option T} (v : V1 f) (h : EW m env p) : EX (mCall f (aCons m aNil)) env (xf1 f p) := fun d e => by
  obtain ⟨a, ea, e⟩ := bs e
  obtain ⟨t, e1, w⟩ := h a ea
  simp only [mCall, aCons, aNil, e1, Option.bind_some, Option.map_some]
  exact v t a d w e
theorem v1_len : V1 lenT := fun t d x w e => by
  have e := bind_pure e
  cases w with
  | p => exact e
  | o xs => simpa [own1, lenT, T.kids] using e
theorem v1_seq {f : List T → Option T} {k : List D → Option T} (h : ∀ t, f [t] = t.seq?.bind k) : V1 f := fun t d x w e => by
  have e := bind_pure e
  rw [h] at e ⊢
  obtain ⟨ds, e1, e⟩ := bs e
  rw [w.seq e1]; exact e
theorem v1_sum : V1 sumT := v1_seq fun _ => rfl
theorem v1_all : V1 allT := v1_seq fun _ => rfl
theorem v1_any : V1 anyT := v1_seq fun _ => rfl
theorem v1_sorted : V1 sortedT := v1_seq fun _ => rfl
theorem v1_anyq {f : List T → Option T} {k : List D → Option T} (h : ∀ t, f [t] = t.any?.bind k) : V1 f := fun t d x w e => by
  have e := bind_pure e
  rw [h] at e ⊢
  obtain ⟨ds, e1, e⟩ := bs e
  rw [w.any e1]; exact e
theorem v1_max : V1 maxT := v1_anyq fun _ => rfl
theorem v1_min : V1 minT := v1_anyq fun _ => rfl
theorem v1_list : V1 listT := v1_anyq fun _ => rfl
theorem v1_lenSet : V1 lenSetT := v1_anyq fun _ => rfl
theorem v1_tuple : V1 tupleT := fun t d x w e => by
  have e := bind_pure e
  cases w with
  | p => exact e
  | o xs => simpa [own1, tupleT, T.seq?, pures_map] using e
/-! tests -/
theorem b_val (h : EX m env p) : BX (bVal m) env (xbool p) := fun b e => by
  obtain ⟨a, ea, e⟩ := bs e
  simp only [bVal, h a ea, Option.bind_some]
  cases a <;> simp [boolD?] at e
  subst e; rfl
theorem b_op (h : EX (mOp f m1 m2) env p) : BX (bOp f m1 m2) env (xbool p) := b_val h
theorem b_and {c1 c2 : En → Option Bool} {p q : Option Bool} (h1 : BX c1 env p) (h2 : BX c2 env q) : BX (bAnd c1 c2) env (xand p q) := fun b e => by
  obtain ⟨a, ea, e⟩ := bs e
  simp only [bAnd, h1 a ea, Option.bind_some]
  cases a with
  | true => simpa using h2 b (by simpa using e)
  | false => simpa using e
theorem b_or {c1 c2 : En → Option Bool} {p q : Option Bool} (h1 : BX c1 env p) (h2 : BX c2 env q) : BX (bOr c1 c2) env (xor' p q) := fun b e => by
  obtain ⟨a, ea, e⟩ := bs e
  simp only [bOr, h1 a ea, Option.bind_some]
  cases a with
  | true => simpa using e
  | false => simpa using h2 b (by simpa using e)
theorem b_not {c1 : En → Option Bool} {p : Option Bool} (h1 : BX c1 env p) : BX (bNot c1) env (xnot p) := fun b e => by
  simp only [xnot, Option.map_eq_some_iff] at e
  obtain ⟨a, ea, rfl⟩ := e
  simp only [bNot, h1 a ea, Option.map_some]
theorem b_yes : BX bYes env (some true) := fun b e => by simp only [Option.some.injEq] at e; subst e; rfl
theorem e_and (h1 : EX m1 env p) (h2 : EX m2 env q) : EX (mAnd m1 m2) env (xmand p q) := fun d e => by
  obtain ⟨c, ec, e⟩ := bs e
  obtain ⟨a, ea, ec⟩ := bs ec
  cases a <;> simp [boolD?] at ec
  subst ec
  simp only [mAnd, h1 _ ea, Option.bind_some, ev_bool]
  rename_i b
  cases b with
  | true => simpa using h2 d (by simpa using e)
  | false => simpa using e
theorem e_or (h1 : EX m1 env p) (h2 : EX m2 env q) : EX (mOr m1 m2) env (xmor p q) := fun d e => by
  obtain ⟨c, ec, e⟩ := bs e
  obtain ⟨a, ea, ec⟩ := bs ec
  cases a <;> simp [boolD?] at ec
  subst ec
  simp only [mOr, h1 _ ea, Option.bind_some, ev_bool]
  rename_i b
  cases b with
  | true => simpa using e
  | false => simpa using h2 d (by simpa using e)
theorem e_not (h1 : EX m1 env p) : EX (mNot m1) env (xmnot p) := fun d e => by
  simp only [xmnot, Option.map_eq_some_iff] at e
  obtain ⟨c, ec, rfl⟩ := e
  obtain ⟨a, ea, ec⟩ := bs ec
  cases a <;> simp [boolD?] at ec
  subst ec
  simp only [mNot, h1 _ ea, Option.bind_some, ev_bool, Option.map_some]
theorem e_orL (h1 : EX m1 env p) (h2 : EX m2 env q) : EX (mOrL m1 m2) env (xmorL p q) := fun d e => by
  obtain ⟨a, ea, e⟩ := bs e
  obtain ⟨ds, e1, e⟩ := bs e
  have : (T.p a).any? = some ds := by cases a <;> simp [seqD?] at e1 <;> subst e1 <;> rfl
  simp only [mOrL, h1 a ea, this, Option.bind_some]
  split
  · rename_i hh; rw [if_pos hh] at e; exact h2 d e
  · rename_i hh; rw [if_neg hh] at e; simp only [Option.some.injEq] at e; rw [e]
theorem e_if {c : En → Option Bool} {pc : Option Bool} (hc : BX c env pc) (h1 : EX m1 env p) (h2 : EX m2 env q) : EX (mIf c m1 m2) env (xif pc p q) := fun d e => by
  obtain ⟨b, eb, e⟩ := bs e
  simp only [mIf, hc b eb, Option.bind_some]
  cases b with
  | true => simpa using h1 d (by simpa using e)
  | false => simpa using h2 d (by simpa using e)
theorem e_chain (h1 : EX m1 env p) (h2 : EX m2 env q) (h3 : EX m3 env r) : EX (mChain f g m1 m2 m3) env (xchain f g p q r) := fun d e => by
  obtain ⟨a, ea, e⟩ := bs e
  obtain ⟨b, eb, e⟩ := bs e
  obtain ⟨c, ec, e⟩ := bs e
  obtain ⟨k, ek, ec⟩ := bs ec
  have ek := bind_pure ek
  cases k with
  | bool x =>
   simp only [boolD?, Option.some.injEq] at ec
   subst ec
   simp only [mChain, h1 a ea, h2 b eb, ek, ev_bool, Option.bind_some]
   cases x with
   | true =>
    simp only [if_true] at e ⊢
    obtain ⟨u, eu, e⟩ := bs e
    simp only [h3 u eu, Option.bind_some]
    exact bind_pure e
   | false => simpa using e
  | _ => simp [boolD?] at ec
theorem e_neg (h : EX m env p) : EX (mNeg m) env (xneg p) := fun d e => by
  obtain ⟨a, ea, e⟩ := bs e
  cases a <;> simp [intD?] at e
  subst e
  simp only [mNeg, h _ ea, Option.bind_some, ev_int, Option.map_some]
theorem o_none : OX oNone env (some none) := fun o e => by simp only [Option.some.injEq] at e; subst e; rfl
theorem o_some (h : EX m env p) : OX (oSome m) env (xint p) := fun o e => by
  obtain ⟨a, ea, e⟩ := bs e
  cases a <;> simp [intD?] at e
  subst e
  simp only [oSome, h _ ea, Option.bind_some, ev_int, Option.map_some]
theorem e_slice {lo hi : OM} {a b : Option (Option Int)} (h : EX m env p) (h1 : OX lo env a) (h2 : OX hi env b) : EX (mSlice m lo hi) env (xslice p a b) := fun d e => by
  obtain ⟨x, ex, e⟩ := bs e
  obtain ⟨y, ey, e⟩ := bs e
  obtain ⟨z, ez, e⟩ := bs e
  simp only [mSlice, h x ex, h1 y ey, h2 z ez, Option.bind_some]
  exact bind_pure e
theorem e_slicew {lo hi : OM} {a b : Option (Option Int)} (h : EW m env p) (h1 : OX lo env a) (h2 : OX hi env b) : EX (mSlice m lo hi) env (xslice p a b) := fun d e => by
  obtain ⟨x, ex, e⟩ := bs e
  obtain ⟨y, ey, e⟩ := bs e
  obtain ⟨z, ez, e⟩ := bs e
  obtain ⟨t, et, w⟩ := h x ex
  simp only [mSlice, et, h1 y ey, h2 z ez, Option.bind_some]
  have e := bind_pure e
  cases w with
  | p => exact e
  | o xs => simpa [sliceT, own1, T.seq?, pures_map] using e
theorem e_rev (h : EX m env p) : EX (mRevT m) env (xrev p) := fun d e => by
  obtain ⟨x, ex, e⟩ := bs e
  simp only [mRevT, h x ex, Option.bind_some]
  cases x <;> simp at e <;> subst e <;> rfl
theorem e_listR (h : EX m env p) : EX (mListR1 m) env (xlistR p) := fun d e => by
  obtain ⟨x, ex, e⟩ := bs e
  obtain ⟨j, ej, e⟩ := bs e
  cases x <;> simp [intD?] at ej
  subst ej
  simp only [mListR1, h _ ex, Option.bind_some, ev_int]
  split
  · rename_i hh; rw [if_pos hh] at e; simp only [Option.some.injEq] at e; rw [e]
  · rename_i hh; rw [if_neg hh] at e; simp at e
theorem e_isi {n : String} (h : EW m env p) : EX (mIsi n m) env (xisi n p) := fun d e => by
  simp only [xisi, Option.map_eq_some_iff] at e
  obtain ⟨a, ea, rfl⟩ := e
  obtain ⟨t, et, w⟩ := h a ea
  simp only [mIsi, et, Option.bind_some, isiT, w.snap, Option.map_some]
/-! displays -/
theorem a_nil : AX aNil env (xseq []) := fun ds e => by
  simp only [xseq, Option.some.injEq] at e; subst e; rfl
theorem a_cons {ms : En → Option (List T)} {l : List (Option D)} (h : EX m env p) (hs : AX ms env (xseq l)) : AX (aCons m ms) env (xseq (p :: l)) := fun ds e => by
  obtain ⟨a, ea, e⟩ := bs e
  simp only [Option.map_eq_some_iff] at e
  obtain ⟨as, eas, rfl⟩ := e
  simp only [aCons, h a ea, hs as eas, Option.bind_some, Option.map_some, List.map_cons]
theorem xseq_len : ∀ {l : List (Option D)} {ds : List D}, xseq l = some ds → ds.length = l.length
  | [], ds, e => by simp only [xseq, Option.some.injEq] at e; subst e; rfl
  | p :: l, ds, e => by
    obtain ⟨a, ea, e⟩ := bs e
    simp only [Option.map_eq_some_iff] at e
    obtain ⟨as, eas, rfl⟩ := e
    simp [xseq_len eas]
theorem e_tup {ms : En → Option (List T)} {l : List (Option D)} (h : AX ms env (xseq l)) (hl : l.length ≤ LIM := by exact Nat.le_of_ble_eq_true rfl) : EX (mTup ms) env (xtup l) := fun d e => by
  simp only [xtup, Option.map_eq_some_iff] at e
  obtain ⟨ds, e, rfl⟩ := e
  have hn : ds.length ≤ LIM := by rw [xseq_len e]; exact hl
  simp only [mTup, h ds e, Option.bind_some, pures_map, hn, if_true]
theorem e_lst {ms : En → Option (List T)} {l : List (Option D)} (h : AX ms env (xseq l)) (hl : l.length ≤ LIM := by exact Nat.le_of_ble_eq_true rfl) : EX (mLst ms) env (xlst l) := fun d e => by
  simp only [xlst, Option.map_eq_some_iff] at e
  obtain ⟨ds, e, rfl⟩ := e
  have hn : ds.length ≤ LIM := by rw [xseq_len e]; exact hl
  simp only [mLst, h ds e, Option.bind_some, pures_map, hn, if_true]
/-! what is walked -/
theorem i_seq (h : EX m env p) : IX (iSeq m) env (iseq p) := fun ds e => by
  obtain ⟨a, ea, e⟩ := bs e
  simp only [iSeq, h a ea, Option.bind_some]
  cases a <;> simp [seqD?] at e <;> subst e <;> rfl
theorem i_seqB (h : EW m env p) : IX (iSeqB m) env (iseq p) := fun ds e => by
  obtain ⟨a, ea, e⟩ := bs e
  obtain ⟨t, et, w⟩ := h a ea
  simp only [iSeqB, et, Option.bind_some]
  refine w.any ?_
  cases a <;> simp [seqD?] at e <;> subst e <;> rfl
theorem i_rng1 (h : EX m env p) : IX (M.iRng1 m) env (irng1 p) := fun ds e => by
  obtain ⟨a, ea, e⟩ := bs e
  obtain ⟨j, ej, e⟩ := bs e
  cases a <;> simp [intD?] at ej
  subst ej
  simp only [M.iRng1, h _ ea, Option.bind_some, ev_int]
  exact e
theorem i_rng2 (h : EX m1 env p) (h2 : EX m2 env q) : IX (M.iRng2 m1 m2) env (irng2 p q) := fun ds e => by
  obtain ⟨a, ea, e⟩ := bs e
  obtain ⟨j, ej, e⟩ := bs e
  obtain ⟨b, eb, e⟩ := bs e
  obtain ⟨k, ek, e⟩ := bs e
  cases a <;> simp [intD?] at ej
  cases b <;> simp [intD?] at ek
  subst ej ek
  simp only [M.iRng2, h _ ea, h2 _ eb, Option.bind_some, ev_int]
  exact e
theorem i_zip (h : EX m1 env p) (h2 : EX m2 env q) : IX (iZp m1 m2) env (izip p q) := fun ds e => by
  obtain ⟨a, ea, e⟩ := bs e
  obtain ⟨b, eb, e⟩ := bs e
  simp only [iZp, h _ ea, h2 _ eb, Option.bind_some]
  cases a <;> cases b <;> simp at e <;> subst e <;> simp [T.fzl?, T.ptup?]
theorem i_enum (h : EX m env p) : IX (iEn m) env (ienum p) := fun ds e => by
  obtain ⟨a, ea, e⟩ := bs e
  simp only [iEn, h _ ea, Option.bind_some]
  cases a <;> simp at e
  subst e; rfl
/-! comprehensions -/
variable {mi : En → Option (List D)} {il : Option (List D)} {vs : List Nat} {gg : D → En → Option En} {tt : En → Option Bool} {me : EM}
theorem lc_run {e0 : En} {h : D → Option (Option D)} (hb : ∀ d y, h d = some y → ∃ e, gg d e0 = some e ∧ match y with | none => tt e = some false | some y => tt e = some true ∧ me e = some (.p y)) :
    ∀ (ds out : List D), lcP h ds = some out → lcRun gg tt me e0 ds = some out
  | [], out, e => by simp only [lcP, Option.some.injEq] at e; subst e; rfl
  | d :: r, out, e => by
    obtain ⟨y, ey, e⟩ := bs e
    simp only [Option.map_eq_some_iff] at e
    obtain ⟨ys, eys, e⟩ := e
    obtain ⟨e1, h1, h2⟩ := hb d y ey
    have ih := lc_run hb r ys eys
    cases y with
    | none => simp only at h2 e; simp only [lcRun, h1, h2, Option.bind_some, ih, Bool.false_eq_true, if_false, e]
    | some y => simp only at h2 e; simp only [lcRun, h1, h2.1, h2.2, Option.bind_some, ih, if_true, ev_pure, Option.map_some, e]
theorem map_run {e0 : En} {h : D → Option D} (hb : ∀ d y, h d = some y → ∃ e, gg d e0 = some e ∧ me e = some (.p y)) :
    ∀ (ds out : List D), mapP h ds = some out → lcRun gg bYes me e0 ds = some out
  | [], out, e => by simp only [mapP, Option.some.injEq] at e; subst e; rfl
  | d :: r, out, e => by
    obtain ⟨y, ey, e⟩ := bs e
    simp only [Option.map_eq_some_iff] at e
    obtain ⟨ys, eys, rfl⟩ := e
    obtain ⟨e1, h1, h2⟩ := hb d y ey
    simp only [lcRun, h1, bYes, h2, Option.bind_some, map_run hb r ys eys, if_true, ev_pure, Option.map_some]
theorem lim_eq {p : Option (List D)} {ds : List D} (h : lim p = some ds) : p = some ds ∧ ds.length ≤ LIM := by
  obtain ⟨x, ex, h⟩ := bs h
  split at h
  · rename_i hh; simp only [Option.some.injEq] at h; subst h; exact ⟨ex, hh⟩
  · simp at h
/-- the element judged behind the target: by a name -/
theorem e_lc {i : Nat} {ht : D → Option Bool} {hm : D → Option D} (hi : IX mi env il) (hb : ∀ d, BX tt ((wipeE env vs).set i (some (.p d))) (ht d) ∧ EX me ((wipeE env vs).set i (some (.p d))) (hm d)) :
    EX (mLc mi vs (gNm i) tt me) env (xlc (fun d => xflt (ht d) (hm d)) il) := fun d e => by
  simp only [xlc, Option.map_eq_some_iff] at e
  obtain ⟨out, e, rfl⟩ := e
  obtain ⟨e, hl⟩ := lim_eq e
  obtain ⟨ds, e1, e⟩ := bs e
  have := lc_run (gg := gNm i) (tt := tt) (me := me) (e0 := wipeE env vs) (h := fun d => xflt (ht d) (hm d)) (fun d y ey => ⟨_, rfl, by
    obtain ⟨b, eb, ey⟩ := bs ey
    cases b with
    | true =>
      simp only [if_true, Option.map_eq_some_iff] at ey
      obtain ⟨z, ez, rfl⟩ := ey
      exact ⟨(hb d).1 _ eb, (hb d).2 z ez⟩
    | false =>
      simp only [Bool.false_eq_true, if_false, Option.some.injEq] at ey
      subst ey
      exact (hb d).1 _ eb⟩) ds out e
  simp only [mLc, hi ds e1, Option.bind_some, this, hl, if_true]
theorem e_map {i : Nat} {hm : D → Option D} (hi : IX mi env il) (hb : ∀ d, EX me ((wipeE env vs).set i (some (.p d))) (hm d)) :
    EX (mLc mi vs (gNm i) bYes me) env (xmap hm il) := fun d e => by
  simp only [xmap, Option.map_eq_some_iff] at e
  obtain ⟨out, e, rfl⟩ := e
  obtain ⟨e, hl⟩ := lim_eq e
  obtain ⟨ds, e1, e⟩ := bs e
  have := map_run (gg := gNm i) (me := me) (e0 := wipeE env vs) (h := hm) (fun d y ey => ⟨_, rfl, hb d y ey⟩) ds out e
  simp only [mLc, hi ds e1, Option.bind_some, this, hl, if_true]
abbrev g2 (i j : Nat) : D → En → Option En := gTp (gCn (gNm i) (gCn (gNm j) gNl))
abbrev g3 (i j k : Nat) : D → En → Option En := gTp (gCn (gNm i) (gCn (gNm j) (gCn (gNm k) gNl)))
abbrev g4 (i j k l : Nat) : D → En → Option En := gTp (gCn (gNm i) (gCn (gNm j) (gCn (gNm k) (gCn (gNm l) gNl))))
theorem un2_eq {R : Type} {d : D} {k : D → D → Option R} {r : R} (h : un2 d k = some r) : ∃ a b, d = .tuple [a, b] ∧ k a b = some r := by
  unfold un2 at h
  split at h
  · exact ⟨_, _, rfl, h⟩
  · simp at h
theorem un3_eq {R : Type} {d : D} {k : D → D → D → Option R} {r : R} (h : un3 d k = some r) : ∃ a b c, d = .tuple [a, b, c] ∧ k a b c = some r := by
  unfold un3 at h
  split at h
  · exact ⟨_, _, _, rfl, h⟩
  · simp at h
theorem un4_eq {R : Type} {d : D} {k : D → D → D → D → Option R} {r : R} (h : un4 d k = some r) : ∃ a b c e, d = .tuple [a, b, c, e] ∧ k a b c e = some r := by
  unfold un4 at h
  split at h
  · exact ⟨_, _, _, _, rfl, h⟩
  · simp at h
theorem e_lc2 {i j : Nat} {ht : D → D → Option Bool} {hm : D → D → Option D} (hi : IX mi env il) (hb : ∀ a b, BX tt (((wipeE env vs).set i (some (.p a))).set j (some (.p b))) (ht a b) ∧ EX me (((wipeE env vs).set i (some (.p a))).set j (some (.p b))) (hm a b)) :
    EX (mLc mi vs (g2 i j) tt me) env (xlc (fun d => un2 d fun a b => xflt (ht a b) (hm a b)) il) := fun d e => by
  simp only [xlc, Option.map_eq_some_iff] at e
  obtain ⟨out, e, rfl⟩ := e
  obtain ⟨e, hl⟩ := lim_eq e
  obtain ⟨ds, e1, e⟩ := bs e
  have := lc_run (gg := g2 i j) (tt := tt) (me := me) (e0 := wipeE env vs) (h := fun d => un2 d fun a b => xflt (ht a b) (hm a b)) (fun d y ey => by
    obtain ⟨a, b', rfl, ey⟩ := un2_eq ey
    refine ⟨_, rfl, ?_⟩
    obtain ⟨b, eb, ey⟩ := bs ey
    cases b with
    | true =>
      simp only [if_true, Option.map_eq_some_iff] at ey
      obtain ⟨z, ez, rfl⟩ := ey
      exact ⟨(hb a b').1 _ eb, (hb a b').2 z ez⟩
    | false =>
      simp only [Bool.false_eq_true, if_false, Option.some.injEq] at ey
      subst ey
      exact (hb a b').1 _ eb) ds out e
  simp only [mLc, hi ds e1, Option.bind_some, this, hl, if_true]
theorem e_map2 {i j : Nat} {hm : D → D → Option D} (hi : IX mi env il) (hb : ∀ a b, EX me (((wipeE env vs).set i (some (.p a))).set j (some (.p b))) (hm a b)) :
    EX (mLc mi vs (g2 i j) bYes me) env (xmap (fun d => un2 d hm) il) := fun d e => by
  simp only [xmap, Option.map_eq_some_iff] at e
  obtain ⟨out, e, rfl⟩ := e
  obtain ⟨e, hl⟩ := lim_eq e
  obtain ⟨ds, e1, e⟩ := bs e
  have := map_run (gg := g2 i j) (me := me) (e0 := wipeE env vs) (h := fun d => un2 d hm) (fun d y ey => by
    obtain ⟨a, b, rfl, ey⟩ := un2_eq ey
    exact ⟨_, rfl, hb a b y ey⟩) ds out e
  simp only [mLc, hi ds e1, Option.bind_some, this, hl, if_true]
/-- .. owned -/
theorem mLc_F {out : List D} (h : mLc mi vs gg tt me env = some (.p (.list out))) : mLcF mi vs gg tt me env = some (own1 out) := by
  unfold mLc at h
  unfold mLcF
  cases e1 : mi env with
  | none => simp [e1] at h
  | some ds =>
    simp only [e1, Option.bind_some] at h ⊢
    cases e2 : lcRun gg tt me (wipeE env vs) ds with
    | none => simp [e2] at h
    | some o =>
      simp only [e2, Option.bind_some] at h ⊢
      split at h
      · rename_i hh
        simp only [Option.some.injEq, T.p.injEq, PyData.list.injEq] at h
        subst h
        simp only [hh, if_true]; rfl
      · simp at h
end
end N
/-! N2: calls, statements, loops. -/
namespace N
open PySem PySem.Spec PyProof.Rows L2 M

/-! ### calls -/
def Fz {α : Type} (τ : α → T) : Prop := ∀ a, (τ a).frozen = true
theorem fz_p : Fz T.p := fun _ => rfl
theorem fz_sc : Fz T.sc := fun _ => rfl
section
variable {env : En} {fn : List T → Option T} {α β γ δ ε ζ : Type} {τ1 : α → T} {τ2 : β → T} {τ3 : γ → T} {τ4 : δ → T} {τ5 : ε → T} {τ6 : ζ → T} {m1 m2 m3 m4 m5 m6 : EM}
  {p1 : Option α} {p2 : Option β} {p3 : Option γ} {p4 : Option δ} {p5 : Option ε} {p6 : Option ζ}
theorem call_s {ts : List T} {p : Option D} (hf : ts.all T.frozen = true) (h : FR RTs (fn ts) p) {d : D} (e : p = some d) : callT fn ts = some (.p d) := by
  obtain ⟨t, h1, h2⟩ := h d e
  have h2 : t.snap = some d := h2
  simp only [callT, hf, if_true, h1, Option.bind_some, h2, Option.map_some]
theorem call_f {ts : List T} {p : Option D} (hf : ts.all T.frozen = true) (h : FR RTo (fn ts) p) {d : D} (e : p = some d) : ∃ xs, d = .list xs ∧ callF fn ts = some (own1 xs) := by
  obtain ⟨t, h1, xs, rfl, rfl⟩ := h d e
  exact ⟨xs, rfl, by simp only [callF, hf, if_true, h1]⟩
theorem e_call1 {P : α → Option D} (h1 : EG τ1 m1 env p1) (f1 : Fz τ1) (R : ∀ a, FR RTs (fn [τ1 a]) (P a)) : EX (mCall (callT fn) (aCons m1 aNil)) env (ap1 P p1) := fun d e => by
  obtain ⟨a, ea, e⟩ := bs e
  simp only [mCall, aCons, aNil, h1 a ea, Option.bind_some, Option.map_some]
  exact call_s (by simp [f1 a]) (R a) e
theorem e_call2 {P : α → β → Option D} (h1 : EG τ1 m1 env p1) (h2 : EG τ2 m2 env p2) (f1 : Fz τ1) (f2 : Fz τ2) (R : ∀ a b, FR RTs (fn [τ1 a, τ2 b]) (P a b)) : EX (mCall (callT fn) (aCons m1 (aCons m2 aNil))) env (ap2 P p1 p2) := fun d e => by
  obtain ⟨a, ea, e⟩ := bs e
  obtain ⟨b, eb, e⟩ := bs e
  simp only [mCall, aCons, aNil, h1 a ea, h2 b eb, Option.bind_some, Option.map_some]
  exact call_s (by simp [f1 a, f2 b]) (R a b) e
theorem e_call3 {P : α → β → γ → Option D} (h1 : EG τ1 m1 env p1) (h2 : EG τ2 m2 env p2) (h3 : EG τ3 m3 env p3) (f1 : Fz τ1) (f2 : Fz τ2) (f3 : Fz τ3) (R : ∀ a b c, FR RTs (fn [τ1 a, τ2 b, τ3 c]) (P a b c)) : EX (mCall (callT fn) (aCons m1 (aCons m2 (aCons m3 aNil)))) env (ap3 P p1 p2 p3) := fun d e => by
  obtain ⟨a, ea, e⟩ := bs e
  obtain ⟨b, eb, e⟩ := bs e
  obtain ⟨c, ec, e⟩ := bs e
  simp only [mCall, aCons, aNil, h1 a ea, h2 b eb, h3 c ec, Option.bind_some, Option.map_some]
  exact call_s (by simp [f1 a, f2 b, f3 c]) (R a b c) e
theorem e_call4 {P : α → β → γ → δ → Option D} (h1 : EG τ1 m1 env p1) (h2 : EG τ2 m2 env p2) (h3 : EG τ3 m3 env p3) (h4 : EG τ4 m4 env p4) (f1 : Fz τ1) (f2 : Fz τ2) (f3 : Fz τ3) (f4 : Fz τ4) (R : ∀ a b c d, FR RTs (fn [τ1 a, τ2 b, τ3 c, τ4 d]) (P a b c d)) : EX (mCall (callT fn) (aCons m1 (aCons m2 (aCons m3 (aCons m4 aNil))))) env (ap4 P p1 p2 p3 p4) := fun d e => by
  obtain ⟨a, ea, e⟩ := bs e
  obtain ⟨b, eb, e⟩ := bs e
  obtain ⟨c, ec, e⟩ := bs e
  obtain ⟨x, ex, e⟩ := bs e
  simp only [mCall, aCons, aNil, h1 a ea, h2 b eb, h3 c ec, h4 x ex, Option.bind_some, Option.map_some]
  exact call_s (by simp [f1 a, f2 b, f3 c, f4 x]) (R a b c x) e
theorem e_call5 {P : α → β → γ → δ → ε → Option D} (h1 : EG τ1 m1 env p1) (h2 : EG τ2 m2 env p2) (h3 : EG τ3 m3 env p3) (h4 : EG τ4 m4 env p4) (h5 : EG τ5 m5 env p5) (f1 : Fz τ1) (f2 : Fz τ2) (f3 : Fz τ3) (f4 : Fz τ4) (f5 : Fz τ5) (R : ∀ a b c d e, FR RTs (fn [τ1 a, τ2 b, τ3 c, τ4 d, τ5 e]) (P a b c d e)) : EX (mCall (callT fn) (aCons m1 (aCons m2 (aCons m3 (aCons m4 (aCons m5 aNil)))))) env (ap5 P p1 p2 p3 p4 p5) := fun d e => by
  obtain ⟨a, ea, e⟩ := bs e
  obtain ⟨b, eb, e⟩ := bs e
  obtain ⟨c, ec, e⟩ := bs e
  obtain ⟨x, ex, e⟩ := bs e
  obtain ⟨y, ey, e⟩ := bs e
  simp only [mCall, aCons, aNil, h1 a ea, h2 b eb, h3 c ec, h4 x ex, h5 y ey, Option.bind_some, Option.map_some]
  exact call_s (by simp [f1 a, f2 b, f3 c, f4 x, f5 y]) (R a b c x y) e
theorem e_call6 {P : α → β → γ → δ → ε → ζ → Option D} (h1 : EG τ1 m1 env p1) (h2 : EG τ2 m2 env p2) (h3 : EG τ3 m3 env p3) (h4 : EG τ4 m4 env p4) (h5 : EG τ5 m5 env p5) (h6 : EG τ6 m6 env p6) (f1 : Fz τ1) (f2 : Fz τ2) (f3 : Fz τ3) (f4 : Fz τ4) (f5 : Fz τ5) (f6 : Fz τ6) (R : ∀ a b c d e f, FR RTs (fn [τ1 a, τ2 b, τ3 c, τ4 d, τ5 e, τ6 f]) (P a b c d e f)) : EX (mCall (callT fn) (aCons m1 (aCons m2 (aCons m3 (aCons m4 (aCons m5 (aCons m6 aNil))))))) env (ap6 P p1 p2 p3 p4 p5 p6) := fun d e => by
  obtain ⟨a, ea, e⟩ := bs e
  obtain ⟨b, eb, e⟩ := bs e
  obtain ⟨c, ec, e⟩ := bs e
  obtain ⟨x, ex, e⟩ := bs e
  obtain ⟨y, ey, e⟩ := bs e
  obtain ⟨z, ez, e⟩ := bs e
  simp only [mCall, aCons, aNil, h1 a ea, h2 b eb, h3 c ec, h4 x ex, h5 y ey, h6 z ez, Option.bind_some, Option.map_some]
  exact call_s (by simp [f1 a, f2 b, f3 c, f4 x, f5 y, f6 z]) (R a b c x y z) e
/-- an old mirror -/
theorem fr_qc {ts : List T} (hf : ts.all T.frozen = true) : FR RTs (fn ts) (qc fn ts) := fun d e => by
  obtain ⟨t, et, e⟩ := bs e
  have e := pure_eq e
  subst e
  simp only [callT, hf, if_true] at et
  obtain ⟨u, eu, et⟩ := bs et
  refine ⟨u, eu, ?_⟩
  simp only [Option.map_eq_some_iff, T.p.injEq] at et
  obtain ⟨x, ex, rfl⟩ := et
  exact ex
/-! .. of owned arguments: views; the result is flat -/
theorem views_w {t : T} {d : D} (w : W1 t d) {ts us : List T} (h : views ts = some us) : views (t :: ts) = some (.p d :: us) := by
  cases w with
  | p => simp [views, T.view, h]
  | o xs => simp [views, own1, T.view, T.snap, snaps_p, h]
def flatO (p : Option D) : Option D := p.bind fun d => if flatD d then some d else none
theorem call_w {ts us : List T} {p : Option D} (hv : views ts = some us) (hu : us.all T.frozen = true) (hs : ts.all T.frozen = true → us = ts) (h : FR RTp (fn us) p) {d : D} (e : flatO p = some d) : callT fn ts = some (.p d) := by
  obtain ⟨x, ex, e⟩ := bs e
  split at e
  · rename_i hf
    simp only [Option.some.injEq] at e
    subst e
    obtain ⟨t, h1, h2⟩ := h x ex
    have h2 : t = .p x := h2
    subst h2
    unfold callT
    split
    · rename_i ha
      rw [← hs ha, h1]; rfl
    · simp only [hv, Option.bind_some, h1, ev_pure, hf, if_true]
  · simp at e
theorem views_self : ∀ {ts us : List T}, views ts = some us → ts.all T.frozen = true → us = ts
  | [], us, h, _ => by simp [views] at h; exact h
  | t :: r, us, h, hf => by
    simp only [List.all_cons, Bool.and_eq_true] at hf
    simp only [views] at h
    obtain ⟨u, eu, h⟩ := bs h
    simp only [Option.map_eq_some_iff] at h
    obtain ⟨us', e2, rfl⟩ := h
    rw [views_self e2 hf.2]
    cases t with
    | p d => simp [T.view] at eu; rw [eu]
    | sc ns => simp [T.view] at eu; rw [eu]
    | _ => simp [T.frozen] at hf
variable {q1 q2 q3 q4 q5 : Option D}
theorem e_callw1 {P : D → Option D} (h1 : EW m1 env q1) (R : ∀ a, FR RTp (fn [.p a]) (P a)) : EX (mCall (callT fn) (aCons m1 aNil)) env (flatO (ap1 P q1)) := fun d e => by
  obtain ⟨x, ex, e'⟩ := bs e
  obtain ⟨a, ea, ex⟩ := bs ex
  obtain ⟨t, et, w⟩ := h1 a ea
  simp only [mCall, aCons, aNil, et, Option.bind_some, Option.map_some]
  have hv := views_w w (ts := []) (us := []) rfl
  exact call_w hv rfl (views_self hv) (R a) (p := P a) (by unfold flatO; rw [ex]; exact e')
theorem e_callw2 {P : D → D → Option D} (h1 : EW m1 env q1) (h2 : EW m2 env q2) (R : ∀ a b, FR RTp (fn [.p a, .p b]) (P a b)) : EX (mCall (callT fn) (aCons m1 (aCons m2 aNil))) env (flatO (ap2 P q1 q2)) := fun d e => by
  obtain ⟨x, ex, e'⟩ := bs e
  obtain ⟨a, ea, ex⟩ := bs ex
  obtain ⟨b, eb, ex⟩ := bs ex
  obtain ⟨t, et, w⟩ := h1 a ea
  obtain ⟨u, eu, w2⟩ := h2 b eb
  simp only [mCall, aCons, aNil, et, eu, Option.bind_some, Option.map_some]
  have hv := views_w w (views_w w2 (ts := []) (us := []) rfl)
  exact call_w hv rfl (views_self hv) (R a b) (p := P a b) (by unfold flatO; rw [ex]; exact e')
theorem e_callw3 {P : D → D → D → Option D} (h1 : EW m1 env q1) (h2 : EW m2 env q2) (h3 : EW m3 env q3) (R : ∀ a b c, FR RTp (fn [.p a, .p b, .p c]) (P a b c)) : EX (mCall (callT fn) (aCons m1 (aCons m2 (aCons m3 aNil)))) env (flatO (ap3 P q1 q2 q3)) := fun d e => by
  obtain ⟨x, ex, e'⟩ := bs e
  obtain ⟨a, ea, ex⟩ := bs ex
  obtain ⟨b, eb, ex⟩ := bs ex
  obtain ⟨c, ec, ex⟩ := bs ex
  obtain ⟨t, et, w⟩ := h1 a ea
  obtain ⟨u, eu, w2⟩ := h2 b eb
  obtain ⟨v, ev, w3⟩ := h3 c ec
  simp only [mCall, aCons, aNil, et, eu, ev, Option.bind_some, Option.map_some]
  have hv := views_w w (views_w w2 (views_w w3 (ts := []) (us := []) rfl))
  exact call_w hv rfl (views_self hv) (R a b c) (p := P a b c) (by unfold flatO; rw [ex]; exact e')
/-! script -/
def scAt (ns : List Int) (p : Option D) : Option D := p.bind fun d => (intD? d).bind fun i => (atI ns i).map PyData.int
theorem e_scAt {ns : List Int} {q : Option D} (h1 : EG T.sc m1 env (some ns)) (h2 : EX m2 env q) : EX (mOp idxT m1 m2) env (scAt ns q) := fun d e => by
  obtain ⟨a, ea, e⟩ := bs e
  obtain ⟨i, ei, e⟩ := bs e
  cases a <;> simp [intD?] at ei
  subst ei
  simp only [mOp, h1 ns rfl, h2 _ ea, Option.bind_some, ev_ixs]
  simp only [Option.map_eq_some_iff] at e ⊢
  obtain ⟨n, en, rfl⟩ := e
  exact ⟨n, en, rfl⟩
theorem e_scLen {ns : List Int} (h1 : EG T.sc m1 env (some ns)) : EX (mCall lenT (aCons m1 aNil)) env (some (.int ns.length)) := fun d e => by
  simp only [Option.some.injEq] at e
  subst e
  simp only [mCall, aCons, aNil, h1 ns rfl, Option.bind_some, Option.map_some, ev_lens]
end

/-! ### owned trees made -/
section
variable {env : En} {m m1 m2 : EM} {p q : Option D}
def asL (p : Option D) : Option (List D) := p.bind fun d => match d with
  | .list xs => some xs
  | _ => none
theorem asL_eq {p : Option D} {xs : List D} (h : asL p = some xs) : p = some (.list xs) := by
  obtain ⟨d, ed, h⟩ := bs h
  cases d <;> simp at h
  subst h; exact ed
theorem f_pure (h : EX m env p) : EX (mPure m) env p := fun d e => by simp only [mPure, h d e, Option.bind_some, ev_pure, Option.map_some]
theorem f_lst {ms : En → Option (List T)} {l : List (Option D)} (h : AX ms env (xseq l)) (hl : l.length ≤ LIM := by exact Nat.le_of_ble_eq_true rfl) : EG own1 (mLstF ms) env (xseq l) := fun ds e => by
  have hn : (ds.map T.p).length ≤ LIM := by rw [List.length_map, xseq_len e]; exact hl
  simp only [mLstF, h ds e, Option.bind_some, hn, if_true, own1]
theorem af_nil : AX aNil env (xseq []) := a_nil
theorem af_cons {ms : En → Option (List T)} {l : List (Option D)} (h : EX m env p) (hs : AX ms env (xseq l)) : AX (aCons (mPure m) ms) env (xseq (p :: l)) := a_cons (f_pure h) hs
theorem f_list (h : EW m env p) : EG own1 (mListF m) env (iseq p) := fun ds e => by
  obtain ⟨a, ea, e⟩ := bs e
  obtain ⟨t, et, w⟩ := h a ea
  have : t.any? = some ds := w.any (by cases a <;> simp [seqD?] at e <;> subst e <;> rfl)
  simp only [mListF, et, Option.bind_some, this, Option.map_some, own1]
theorem f_listR (h : EX m env p) : EG own1 (mListR1F m) env (asL (xlistR p)) := fun ds e => by
  simp only [mListR1F, e_listR h _ (asL_eq e), Option.bind_some, own1]
def xrep (p q : Option D) : Option (List D) := p.bind fun d => (match d with | .list xs => some xs | _ => none).bind fun xs => q.bind fun e => (intD? e).bind fun j => if -(2 ^ 62) ≤ j ∧ j < 2 ^ 62 ∧ xs.length * j.toNat ≤ LIM then some (List.replicate j.toNat xs).flatten else none
theorem f_rep (h : EX m1 env p) (h2 : EX m2 env q) : EG own1 (mRepF m1 m2) env (xrep p q) := fun ds e => by
  obtain ⟨a, ea, e⟩ := bs e
  obtain ⟨xs, exs, e⟩ := bs e
  obtain ⟨b, eb, e⟩ := bs e
  obtain ⟨j, ej, e⟩ := bs e
  cases a <;> simp at exs
  cases b <;> simp [intD?] at ej
  subst exs ej
  simp only [mRepF, h _ ea, h2 _ eb, Option.bind_some, ev_lstl, ev_int]
  split at e
  · rename_i hh
    simp only [Option.some.injEq] at e
    subst e
    rw [if_pos hh]; rfl
  · simp at e
theorem f_lc {mi : En → Option (List D)} {vs : List Nat} {gg : D → En → Option En} {tt : En → Option Bool} {me : EM} (h : EX (mLc mi vs gg tt me) env p) : EG own1 (mLcF mi vs gg tt me) env (asL p) := fun ds e => mLc_F (h _ (asL_eq e))
theorem f_call1 {fn : List T → Option T} {α : Type} {τ1 : α → T} {p1 : Option α} {P : α → Option D} (h1 : EG τ1 m1 env p1) (f1 : Fz τ1) (R : ∀ a, FR RTo (fn [τ1 a]) (P a)) : EG own1 (mCall (callF fn) (aCons m1 aNil)) env (asL (ap1 P p1)) := fun ds e => by
  have e := asL_eq e
  obtain ⟨a, ea, e⟩ := bs e
  simp only [mCall, aCons, aNil, h1 a ea, Option.bind_some, Option.map_some]
  obtain ⟨xs, e1, e2⟩ := call_f (by simp [f1 a]) (R a) e
  cases e1; exact e2
theorem f_call2 {fn : List T → Option T} {α β : Type} {τ1 : α → T} {τ2 : β → T} {p1 : Option α} {p2 : Option β} {P : α → β → Option D} (h1 : EG τ1 m1 env p1) (h2 : EG τ2 m2 env p2) (f1 : Fz τ1) (f2 : Fz τ2) (R : ∀ a b, FR RTo (fn [τ1 a, τ2 b]) (P a b)) : EG own1 (mCall (callF fn) (aCons m1 (aCons m2 aNil))) env (asL (ap2 P p1 p2)) := fun ds e => by
  have e := asL_eq e
  obtain ⟨a, ea, e⟩ := bs e
  obtain ⟨b, eb, e⟩ := bs e
  simp only [mCall, aCons, aNil, h1 a ea, h2 b eb, Option.bind_some, Option.map_some]
  obtain ⟨xs, e1, e2⟩ := call_f (by simp [f1 a, f2 b]) (R a b) e
  cases e1; exact e2
theorem f_call3 {fn : List T → Option T} {α β γ : Type} {τ1 : α → T} {τ2 : β → T} {τ3 : γ → T} {m3 : EM} {p1 : Option α} {p2 : Option β} {p3 : Option γ} {P : α → β → γ → Option D} (h1 : EG τ1 m1 env p1) (h2 : EG τ2 m2 env p2) (h3 : EG τ3 m3 env p3) (f1 : Fz τ1) (f2 : Fz τ2) (f3 : Fz τ3) (R : ∀ a b c, FR RTo (fn [τ1 a, τ2 b, τ3 c]) (P a b c)) : EG own1 (mCall (callF fn) (aCons m1 (aCons m2 (aCons m3 aNil)))) env (asL (ap3 P p1 p2 p3)) := fun ds e => by
  have e := asL_eq e
  obtain ⟨a, ea, e⟩ := bs e
  obtain ⟨b, eb, e⟩ := bs e
  obtain ⟨c, ec, e⟩ := bs e
  simp only [mCall, aCons, aNil, h1 a ea, h2 b eb, h3 c ec, Option.bind_some, Option.map_some]
  obtain ⟨xs, e1, e2⟩ := call_f (by simp [f1 a, f2 b, f3 c]) (R a b c) e
  cases e1; exact e2
/-- list of owned lists -/
def mapP2 (h : D → Option (List D)) : List D → Option (List (List D))
  | [] => some []
  | d :: r => (h d).bind fun y => (mapP2 h r).map fun ys => y :: ys
def xmap2 (h : D → Option (List D)) (q : Option (List D)) : Option (List (List D)) := q.bind fun ds => (mapP2 h ds).bind fun out => if out.length ≤ LIM then some out else none
theorem map2_run {i : Nat} {me : EM} {e0 : En} {h : D → Option (List D)} (hb : ∀ d, EG own1 me (e0.set i (some (.p d))) (h d)) : ∀ (ds : List D) (out : List (List D)), mapP2 h ds = some out → lcRunT (gNm i) bYes me e0 ds = some (out.map own1)
  | [], out, e => by simp only [mapP2, Option.some.injEq] at e; subst e; rfl
  | d :: r, out, e => by
    obtain ⟨y, ey, e⟩ := bs e
    simp only [Option.map_eq_some_iff] at e
    obtain ⟨ys, eys, rfl⟩ := e
    simp only [lcRunT, gNm, bYes, Option.bind_some, if_true, hb d y ey, map2_run hb r ys eys, Option.map_some, List.map_cons]
theorem f_lc2 {mi : En → Option (List D)} {il : Option (List D)} {vs : List Nat} {i : Nat} {me : EM} {hm : D → Option (List D)} (hi : IX mi env il) (hb : ∀ d, EG own1 me ((wipeE env vs).set i (some (.p d))) (hm d)) :
    EG own2 (mLcT mi vs (gNm i) bYes me) env (xmap2 hm il) := fun out e => by
  obtain ⟨ds, e1, e⟩ := bs e
  obtain ⟨o, e2, e⟩ := bs e
  split at e
  · rename_i hl
    simp only [Option.some.injEq] at e
    subst e
    have : (o.map own1).length ≤ LIM := by rw [List.length_map]; exact hl
    simp only [mLcT, hi ds e1, Option.bind_some, map2_run hb ds o e2, this, if_true, own2]
  · simp at e
theorem e_ix2 {xs : List (List D)} (h1 : EG own2 m1 env (some xs)) (h2 : EX m2 env q) : EW (mOp idxT m1 m2) env (xop idxT (some (.list (xs.map PyData.list))) q) := fun d e => by
  obtain ⟨a, ea, e⟩ := bs e
  obtain ⟨b, eb, e⟩ := bs e
  simp only [Option.some.injEq] at ea
  subst ea
  have e := bind_pure e
  simp only [mOp, h1 xs rfl, h2 b eb, Option.bind_some]
  cases b with
  | int i =>
    simp only [ev_ixl, own2, ev_ixm] at e ⊢
    simp only [Option.map_eq_some_iff] at e
    obtain ⟨y, e1, e2⟩ := e
    simp only [T.p.injEq] at e2
    subst e2
    simp only [atI, List.length_map] at e1 ⊢
    obtain ⟨j, ej, e1⟩ := bs e1
    simp only [ej, Option.bind_some, List.getElem?_map, Option.map_eq_some_iff] at e1 ⊢
    obtain ⟨z, ez, rfl⟩ := e1
    exact ⟨_, ⟨z, ez, rfl⟩, .o z⟩
  | _ => simp [idxT, T.int?] at e
theorem e_len2 {xs : List (List D)} (h1 : EG own2 m1 env (some xs)) : EX (mCall lenT (aCons m1 aNil)) env (some (.int xs.length)) := fun d e => by
  simp only [Option.some.injEq] at e
  subst e
  simp only [mCall, aCons, aNil, h1 xs rfl, Option.bind_some, Option.map_some, own2, ev_lenm, List.length_map]
/-! dicts -/
def xdget (x : List (Key × D)) (q : Option D) : Option D := q.bind fun c => (keyOf? c).bind fun k => valD x k
def xdin (x : List (Key × D)) (q : Option D) : Option D := q.bind fun c => (keyOf? c).map fun k => .bool (valD x k).isSome
def xdnin (x : List (Key × D)) (q : Option D) : Option D := q.bind fun c => (keyOf? c).map fun k => .bool (!(valD x k).isSome)
/-- a dict's tree, locked or not -/
def DT (t : T) (x : List (Key × D)) : Prop := t.dct? = some x
theorem e_dget {x : List (Key × D)} {t : T} (h1 : m1 env = some t) (hd : t.dct? = some x) (h2 : EX m2 env q) : EX (mOp dGetT m1 m2) env (xdget x q) := fun d e => by
  obtain ⟨c, ec, e⟩ := bs e
  obtain ⟨k, ek, e⟩ := bs e
  simp only [mOp, h1, h2 c ec, Option.bind_some, dGetT, hd, ev_pure, ek, e, Option.map_some]
theorem e_din {x : List (Key × D)} {t : T} (h1 : m1 env = some t) (hd : t.dct? = some x) (h2 : EX m2 env q) : EX (mOp dInT m2 m1) env (xdin x q) := fun d e => by
  obtain ⟨c, ec, e⟩ := bs e
  simp only [Option.map_eq_some_iff] at e
  obtain ⟨k, ek, rfl⟩ := e
  simp only [mOp, h1, h2 c ec, Option.bind_some, dInT, hd, ev_pure, ek, Option.map_some]
theorem e_dnin {x : List (Key × D)} {t : T} (h1 : m1 env = some t) (hd : t.dct? = some x) (h2 : EX m2 env q) : EX (mOp dNotInT m2 m1) env (xdnin x q) := fun d e => by
  obtain ⟨c, ec, e⟩ := bs e
  simp only [Option.map_eq_some_iff] at e
  obtain ⟨k, ek, rfl⟩ := e
  simp only [mOp, h1, h2 c ec, Option.bind_some, dNotInT, hd, ev_pure, ek, Option.map_some]
theorem f_dnew : EG T.md mDNew env (some []) := fun a e => by simp only [Option.some.injEq] at e; subst e; rfl
def xdone (p q : Option D) : Option (List (Key × D)) := p.bind fun c => (keyOf? c).bind fun k => q.map fun d => [(k, d)]
theorem f_done (h1 : EX m1 env p) (h2 : EX m2 env q) : EG T.md (mDOne m1 m2) env (xdone p q) := fun a e => by
  obtain ⟨c, ec, e⟩ := bs e
  obtain ⟨k, ek, e⟩ := bs e
  simp only [Option.map_eq_some_iff] at e
  obtain ⟨d, ed, rfl⟩ := e
  simp only [mDOne, h1 c ec, h2 d ed, Option.bind_some, ev_pure, ek, Option.map_some]
end

/-- a dict as data -/
def dD (x : List (Key × D)) : D := .dict (x.map fun p => (keyD p.1, p.2))
theorem rts_md (x : List (Key × D)) : RTs (dD x) (.md x) := by simp [RTs, T.snap, dD]
/-! ### statements -/
def SB {R : Type} (m : SM) (env : En) (p : Option R) (Z : R → Out → Prop) : Prop := ∀ r, p = some r → ∃ o, m env = some o ∧ Z r o
inductive Ct (S : Type) where
  | nx (s : S) | bk (s : S) | rt (d : D)
def ZR (RT : D → T → Prop) : D → Out → Prop := fun d o => (∃ t, o = .rt t ∧ RT d t) ∨ ∃ e, o = .nx e ∧ RT d (.p .none)
def ZN {S J : Type} (enc : S → J → En) : S → Out → Prop := fun s o => ∃ j, o = .nx (enc s j) ∨ o = .ct (enc s j)
def ZI {S J : Type} (enc : S → J → En) : S → Out → Prop := fun s o => ∃ j, o = .nx (enc s j)
def ZC {S J : Type} (RT : D → T → Prop) (enc : S → J → En) : Ct S → Out → Prop
  | .nx s, o => ∃ j, o = .nx (enc s j) ∨ o = .ct (enc s j)
  | .bk s, o => ∃ j, o = .bk (enc s j)
  | .rt d, o => ∃ t, o = .rt t ∧ RT d t
section
variable {R : Type} {env : En} {a b c rest : SM} {Z : R → Out → Prop} {p : Option R} {me me2 mi : EM} {q q2 : Option D} {i j : Nat}
theorem run_fr {RT : D → T → Prop} {n : Nat} {body : SM} {ts : List T} {p : Option D} (h : SB body (startE n ts) p (ZR RT)) : FR RT (runFn n body ts) p := fun d e => by
  obtain ⟨o, h1, h2⟩ := h d e
  rcases h2 with ⟨t, rfl, h2⟩ | ⟨e', rfl, h2⟩
  · exact ⟨t, by simp only [runFn, h1, Option.bind_some], h2⟩
  · exact ⟨_, by simp only [runFn, h1, Option.bind_some], h2⟩
theorem sb_one (h : SB (sCons a sNil) env p Z) : SB a env p Z := fun r e => by
  obtain ⟨o, h1, h2⟩ := h r e
  refine ⟨o, ?_, h2⟩
  simp only [sCons] at h1
  obtain ⟨o', e1, h1⟩ := bs h1
  rw [e1]
  cases o' <;> simpa [sNil] using h1
theorem sb_assoc (h : SB (sCons a (sCons b c)) env p Z) : SB (sCons (sCons a b) c) env p Z := fun r e => by
  obtain ⟨o, h1, h2⟩ := h r e
  refine ⟨o, ?_, h2⟩
  simp only [sCons] at h1 ⊢
  obtain ⟨o', e1, h1⟩ := bs h1
  rw [e1]
  cases o' <;> simpa using h1
theorem sb_skip (h : SB rest env p Z) : SB (sCons sNil rest) env p Z := fun r e => by
  obtain ⟨o, h1, h2⟩ := h r e
  exact ⟨o, by simpa [sCons, sNil] using h1, h2⟩
theorem sb_nil {r : R} (h : Z r (.nx env)) : SB sNil env (some r) Z := fun r' e => by
  simp only [Option.some.injEq] at e; subst e; exact ⟨_, rfl, h⟩
theorem sb_never : SB a env (none : Option R) Z := fun r e => by simp at e
theorem sb_pass (h : SB rest env p Z) : SB (sCons sPass rest) env p Z := sb_skip h
theorem sb_break {r : R} (h : Z r (.bk env)) : SB (sCons sBreak rest) env (some r) Z := fun r' e => by
  simp only [Option.some.injEq] at e; subst e; exact ⟨_, rfl, h⟩
theorem sb_cont {r : R} (h : Z r (.ct env)) : SB (sCons sContinue rest) env (some r) Z := fun r' e => by
  simp only [Option.some.injEq] at e; subst e; exact ⟨_, rfl, h⟩
theorem sb_set {k : D → Option R} (he : EX me env q) (hk : ∀ d, SB rest (env.set i (some (.p d))) (k d) Z) : SB (sCons (sSet i me) rest) env (q.bind k) Z := fun r e => by
  obtain ⟨d, ed, e⟩ := bs e
  obtain ⟨o, h1, h2⟩ := hk d r e
  exact ⟨o, by simp only [sCons, sSet, he d ed, Option.bind_some, ev_pure, Option.map_some, h1], h2⟩
theorem sb_setF {α : Type} {τ : α → T} {q : Option α} {k : α → Option R} (he : EG τ me env q) (hk : ∀ d, SB rest (env.set i (some (τ d))) (k d) Z) : SB (sCons (sSetF i me) rest) env (q.bind k) Z := fun r e => by
  obtain ⟨d, ed, e⟩ := bs e
  obtain ⟨o, h1, h2⟩ := hk d r e
  exact ⟨o, by simp only [sCons, sSetF, he d ed, Option.map_some, Option.bind_some, h1], h2⟩
theorem sb_expr (he : EX me env q) (hk : SB rest env p Z) : SB (sCons (sExpr me) rest) env (q.bind fun _ => p) Z := fun r e => by
  obtain ⟨d, ed, e⟩ := bs e
  obtain ⟨o, h1, h2⟩ := hk r e
  exact ⟨o, by simp only [sCons, sExpr, he d ed, Option.map_some, Option.bind_some, h1], h2⟩
theorem sb_asg2 {k : D → D → Option R} (he : EX me env q) (hk : ∀ x y, SB rest ((env.set i (some (.p x))).set j (some (.p y))) (k x y) Z) : SB (sCons (sAsg (g2 i j) me) rest) env (q.bind fun d => un2 d k) Z := fun r e => by
  obtain ⟨d, ed, e⟩ := bs e
  obtain ⟨x, y, rfl, e⟩ := un2_eq e
  obtain ⟨o, h1, h2⟩ := hk x y r e
  exact ⟨o, by simp only [sCons, sAsg, he _ ed, Option.bind_some, ev_pure, gTp, gCn, gNm, gNl, Option.map_some, h1], h2⟩
theorem sb_asg3 {l : Nat} {k : D → D → D → Option R} (he : EX me env q) (hk : ∀ x y z, SB rest (((env.set i (some (.p x))).set j (some (.p y))).set l (some (.p z))) (k x y z) Z) : SB (sCons (sAsg (g3 i j l) me) rest) env (q.bind fun d => un3 d k) Z := fun r e => by
  obtain ⟨d, ed, e⟩ := bs e
  obtain ⟨x, y, z, rfl, e⟩ := un3_eq e
  obtain ⟨o, h1, h2⟩ := hk x y z r e
  exact ⟨o, by simp only [sCons, sAsg, he _ ed, Option.bind_some, ev_pure, gTp, gCn, gNm, gNl, Option.map_some, h1], h2⟩
theorem sb_asg4 {l n : Nat} {k : D → D → D → D → Option R} (he : EX me env q) (hk : ∀ x y z w, SB rest ((((env.set i (some (.p x))).set j (some (.p y))).set l (some (.p z))).set n (some (.p w))) (k x y z w) Z) : SB (sCons (sAsg (g4 i j l n) me) rest) env (q.bind fun d => un4 d k) Z := fun r e => by
  obtain ⟨d, ed, e⟩ := bs e
  obtain ⟨x, y, z, w, rfl, e⟩ := un4_eq e
  obtain ⟨o, h1, h2⟩ := hk x y z w r e
  exact ⟨o, by simp only [sCons, sAsg, he _ ed, Option.bind_some, ev_pure, gTp, gCn, gNm, gNl, Option.map_some, h1], h2⟩
theorem sb_par {k : D → D → Option R} (he : EX me env q) (he2 : EX me2 env q2) (hk : ∀ x y, SB rest ((env.set i (some (.p x))).set j (some (.p y))) (k x y) Z) : SB (sCons (sPar i j (aCons me (aCons me2 aNil))) rest) env (q.bind fun x => q2.bind fun y => k x y) Z := fun r e => by
  obtain ⟨x, ex, e⟩ := bs e
  obtain ⟨y, ey, e⟩ := bs e
  obtain ⟨o, h1, h2⟩ := hk x y r e
  exact ⟨o, by simp only [sCons, sPar, aCons, aNil, he _ ex, he2 _ ey, Option.bind_some, Option.map_some, pures, ev_pure, h1], h2⟩
theorem sb_ret {k : D → R} (he : EX me env q) (hz : ∀ d, Z (k d) (.rt (.p d))) : SB (sCons (sRet me) rest) env (q.map k) Z := fun r e => by
  simp only [Option.map_eq_some_iff] at e
  obtain ⟨d, ed, rfl⟩ := e
  exact ⟨_, by simp only [sCons, sRet, he d ed, Option.bind_some, ev_pure, Option.map_some], hz d⟩
theorem sb_ret0 {Z : D → Out → Prop} (he : EX me env q) (hz : ∀ d, Z d (.rt (.p d))) : SB (sCons (sRet me) rest) env q Z := fun d ed =>
  ⟨_, by simp only [sCons, sRet, he d ed, Option.bind_some, ev_pure, Option.map_some], hz d⟩
theorem sb_retV {r : R} {t : T} (h : (env[i]?).join = some t) (hz : Z r (.rt t)) : SB (sCons (sRetV i) rest) env (some r) Z := fun r' e => by
  simp only [Option.some.injEq] at e; subst e
  exact ⟨_, by simp only [sCons, sRetV, slotT, h, Option.map_some, Option.bind_some], hz⟩
theorem sb_retM {x : Option D} {k : D → R} (h : (env[i]?).join = x.map T.p) (hz : ∀ d, Z (k d) (.rt (.p d))) : SB (sCons (sRetV i) rest) env (x.map k) Z := fun r' e => by
  simp only [Option.map_eq_some_iff] at e
  obtain ⟨d, rfl, rfl⟩ := e
  exact ⟨_, by simp only [sCons, sRetV, slotT, h, Option.map_some, Option.bind_some], hz d⟩
theorem sb_retF {α : Type} {τ : α → T} {q : Option α} {k : α → R} (he : EG τ me env q) (hz : ∀ d, Z (k d) (.rt (τ d))) : SB (sCons (sRetF me) rest) env (q.map k) Z := fun r e => by
  simp only [Option.map_eq_some_iff] at e
  obtain ⟨d, ed, rfl⟩ := e
  exact ⟨_, by simp only [sCons, sRetF, he d ed, Option.map_some, Option.bind_some], hz d⟩
theorem sb_frz {t : T} {d : D} (h : env[i]? = some (some t)) (hs : t.snap = some d) (hk : SB a (env.set i (some (.p d))) p Z) : SB (sFrz i a) env p Z := fun r e => by
  obtain ⟨o, h1, h2⟩ := hk r e
  exact ⟨o, by simp only [sFrz, h, hs, Option.bind_some, h1], h2⟩
theorem sb_frzC {t : T} {d : D} (h : env[i]? = some (some t)) (hs : t.snap = some d) (hk : SB (sCons a rest) (env.set i (some (.p d))) p Z) : SB (sCons (sFrz i a) rest) env p Z := fun r e => by
  obtain ⟨o, h1, h2⟩ := hk r e
  exact ⟨o, by simp only [sCons, sFrz, h, hs, Option.bind_some] at h1 ⊢; exact h1, h2⟩
/-- nothing to be frozen: the slot is forgotten or not set -/
theorem sb_frz0 (h : env[i]? = some none) (hk : SB a env p Z) : SB (sFrz i a) env p Z := fun r e => by
  obtain ⟨o, h1, h2⟩ := hk r e
  exact ⟨o, by simp only [sFrz, h, h1], h2⟩
theorem sb_if {cc : En → Option Bool} {pc : Option Bool} {p' : Option R} (hc : BX cc env pc) (ha : SB (sCons a rest) env p Z) (hb : SB (sCons b rest) env p' Z) : SB (sCons (sIf cc a b) rest) env (xif pc p p') Z := fun r e => by
  obtain ⟨x, ex, e⟩ := bs e
  cases x with
  | true =>
    obtain ⟨o, h1, h2⟩ := ha r (by simpa using e)
    exact ⟨o, by simpa [sCons, sIf, hc _ ex] using h1, h2⟩
  | false =>
    obtain ⟨o, h1, h2⟩ := hb r (by simpa using e)
    exact ⟨o, by simpa [sCons, sIf, hc _ ex] using h1, h2⟩
theorem sb_ifJ {cc : En → Option Bool} {pc : Option Bool} {S J : Type} {enc : S → J → En} {pa pb : Option S} {k : S → Option R} (hc : BX cc env pc) (ha : SB a env pa (ZI enc)) (hb : SB b env pb (ZI enc)) (hk : ∀ s j, SB rest (enc s j) (k s) Z) : SB (sCons (sIf cc a b) rest) env ((xif pc pa pb).bind k) Z := fun r e => by
  obtain ⟨s, es, e⟩ := bs e
  obtain ⟨x, ex, es⟩ := bs es
  cases x with
  | true =>
    obtain ⟨o, h1, j, rfl⟩ := ha s (by simpa using es)
    obtain ⟨o, h3, h4⟩ := hk s j r e
    exact ⟨o, by simp [sCons, sIf, hc _ ex, h1, h3], h4⟩
  | false =>
    obtain ⟨o, h1, j, rfl⟩ := hb s (by simpa using es)
    obtain ⟨o, h3, h4⟩ := hk s j r e
    exact ⟨o, by simp [sCons, sIf, hc _ ex, h1, h3], h4⟩
end
/-! owned lists changed -/
theorem map_erase {α β : Type} {f : α → β} : ∀ {xs : List α} {w : Nat}, (xs.map f).eraseIdx w = (xs.eraseIdx w).map f
  | [], _ => rfl
  | _ :: _, 0 => rfl
  | _ :: r, w + 1 => by simp [map_erase (xs := r)]
def apd (x : List D) (y : D) : Option (List D) := if x.length < LIM then some (x ++ [y]) else none
def extL (x : List D) (y : D) : Option (List D) := match y with
  | .list ds => if x.length + ds.length ≤ LIM then some (x ++ ds) else none
  | _ => none
def insL (x : List D) (k y : D) : Option (List D) := (intD? k).bind fun k => if 0 ≤ k ∧ k < 2 ^ 62 ∧ x.length < LIM then some (x.take k.toNat ++ [y] ++ x.drop k.toNat) else none
def setL (x : List D) (k y : D) : Option (List D) := (intD? k).bind fun k => (ixN x.length k).map fun j => x.set j y
def popL (x : List D) (k : Int) : Option (List D × D) := (ixN x.length k).bind fun j => (x[j]?).map fun d => (x.eraseIdx j, d)
def popK (x : List D) (k : D) : Option (List D × D) := (intD? k).bind fun k => if -(2 ^ 62) ≤ k ∧ k < 2 ^ 62 then popL x k else none
def set2 (x : List (List D)) (k l y : D) : Option (List (List D)) := (intD? k).bind fun k => (ixN x.length k).bind fun j => (x[j]?).bind fun r => (setL r l y).map fun r => x.set j r
def putP (x : List (Key × D)) (k y : D) : Option (List (Key × D)) := (keyOf? k).bind fun k => if x.length < LIM then some (putD x k y) else none
section
variable {R : Type} {env : En} {rest : SM} {Z : R → Out → Prop} {p : Option R} {me mi mk : EM} {q q2 q3 : Option D} {i j : Nat}
/-- the slot's tree: what it strips to, and what it wraps -/
theorem upd_at {t : T} {x : List D} (h : env[i]? = some (some t)) (ht : t.strip = own1 x) {f : List T → Option (List T)} {x' : List D} (hf : f (x.map T.p) = some (x'.map T.p)) : updAt (pVar i) f env = some (env.set i (some (t.wrap (own1 x')))) := by
  have hs : slotT env i = some t := by simp [slotT, h]
  simp only [updAt, pVar, hs, Option.map_some, Option.bind_some, T.at, T.put, ht, own1, hf]
theorem sb_append {t : T} {x : List D} {k : List D → Option R} (h : env[i]? = some (some t)) (ht : t.strip = own1 x) (he : EX me env q) (hk : ∀ x', SB rest (env.set i (some (t.wrap (own1 x')))) (k x') Z) : SB (sCons (sAppend (pVar i) me) rest) env (q.bind fun y => (apd x y).bind k) Z := fun r e => by
  obtain ⟨y, ey, e⟩ := bs e
  obtain ⟨x', ex, e⟩ := bs e
  obtain ⟨o, h1, h2⟩ := hk x' r e
  unfold apd at ex
  split at ex
  · rename_i hl
    simp only [Option.some.injEq] at ex
    subst ex
    refine ⟨o, ?_, h2⟩
    simp only [sCons, sAppend, he y ey, Option.bind_some, ev_pure]
    rw [upd_at h ht (x' := x ++ [y]) (by rw [if_pos (by rw [List.length_map]; exact hl)]; simp)]
    simpa using h1
  · simp at ex
theorem sb_extend {t : T} {x : List D} {k : List D → Option R} (h : env[i]? = some (some t)) (ht : t.strip = own1 x) (he : EX me env q) (hk : ∀ x', SB rest (env.set i (some (t.wrap (own1 x')))) (k x') Z) : SB (sCons (sExtend (pVar i) me) rest) env (q.bind fun y => (extL x y).bind k) Z := fun r e => by
  obtain ⟨y, ey, e⟩ := bs e
  obtain ⟨x', ex, e⟩ := bs e
  obtain ⟨o, h1, h2⟩ := hk x' r e
  cases y with
  | list ds =>
    simp only [extL] at ex
    split at ex
    · rename_i hl
      simp only [Option.some.injEq] at ex
      subst ex
      refine ⟨o, ?_, h2⟩
      simp only [sCons, sExtend, he _ ey, Option.bind_some]
      rw [upd_at h ht (x' := x ++ ds) (by rw [if_pos (by rw [List.length_map]; exact hl)]; simp)]
      simpa using h1
    · simp at ex
  | _ => simp [extL] at ex
theorem sb_insert {t : T} {x : List D} {k : List D → Option R} (h : env[i]? = some (some t)) (ht : t.strip = own1 x) (hi : EX mi env q) (he : EX me env q2) (hk : ∀ x', SB rest (env.set i (some (t.wrap (own1 x')))) (k x') Z) : SB (sCons (sInsert (pVar i) mi me) rest) env (q.bind fun l => q2.bind fun y => (insL x l y).bind k) Z := fun r e => by
  obtain ⟨l, el, e⟩ := bs e
  obtain ⟨y, ey, e⟩ := bs e
  obtain ⟨x', ex, e⟩ := bs e
  obtain ⟨o, h1, h2⟩ := hk x' r e
  cases l with
  | int l =>
    simp only [insL, intD?, Option.bind_some] at ex
    split at ex
    · rename_i hl
      simp only [Option.some.injEq] at ex
      subst ex
      refine ⟨o, ?_, h2⟩
      simp only [sCons, sInsert, hi _ el, he _ ey, Option.bind_some, ev_int, ev_pure]
      rw [upd_at h ht (x' := x.take l.toNat ++ [y] ++ x.drop l.toNat) (by unfold insN; rw [if_pos (by rw [List.length_map]; exact hl)]; simp)]
      simpa using h1
    · simp at ex
  | _ => simp [insL, intD?] at ex
theorem sb_setIx {t : T} {x : List D} {k : List D → Option R} (h : env[i]? = some (some t)) (ht : t.strip = own1 x) (hi : EX mi env q) (he : EX me env q2) (hk : ∀ x', SB rest (env.set i (some (t.wrap (own1 x')))) (k x') Z) : SB (sCons (sSetIx (pVar i) mi me) rest) env (q.bind fun l => q2.bind fun y => (setL x l y).bind k) Z := fun r e => by
  obtain ⟨l, el, e⟩ := bs e
  obtain ⟨y, ey, e⟩ := bs e
  obtain ⟨x', ex, e⟩ := bs e
  obtain ⟨o, h1, h2⟩ := hk x' r e
  cases l with
  | int l =>
    simp only [setL, intD?, Option.bind_some, Option.map_eq_some_iff] at ex
    obtain ⟨w, ew, rfl⟩ := ex
    refine ⟨o, ?_, h2⟩
    simp only [sCons, sSetIx, hi _ el, he _ ey, Option.bind_some, ev_int, ev_pure]
    rw [upd_at h ht (x' := x.set w y) (by unfold setN; rw [List.length_map, ew]; simp [List.map_set])]
    simpa using h1
  | _ => simp [setL, intD?] at ex
theorem upd_at2 {t : T} {x : List (List D)} {xi : EM} {w : Nat} {l : Int} {row : List D} (h : env[i]? = some (some t)) (ht : t.strip = own2 x) (hx : xi env = some (.p (.int l))) (hw : ixN x.length l = some w) (hr : x[w]? = some row) {f : List T → Option (List T)} {x' : List D} (hf : f (row.map T.p) = some (x'.map T.p)) :
    updAt (pIx (pVar i) xi) f env = some (env.set i (some (t.wrap (own2 (x.set w x'))))) := by
  have hs : slotT env i = some t := by simp [slotT, h]
  have e1 : pIx (pVar i) xi env = some (i, [.ix w]) := by
    simp only [pIx, pVar, hs, Option.map_some, Option.bind_some, hx, ev_int, T.at, ht, own2, ev_own, List.length_map, hw, List.nil_append]
  have e2 : (x.map own1)[w]? = some (own1 row) := by simp [hr]
  simp only [updAt, e1, hs, Option.bind_some, T.at, T.put, ht, own2, e2]
  simp only [own1, strip_ml, hf, Option.bind_some, Option.map_some, wrap_ml, List.map_set]
theorem sb_set2 {t : T} {x : List (List D)} {xi : EM} {k : List (List D) → Option R} (h : env[i]? = some (some t)) (ht : t.strip = own2 x) (hx : EX xi env q3) (hi : EX mi env q) (he : EX me env q2) (hk : ∀ x', SB rest (env.set i (some (t.wrap (own2 x')))) (k x') Z) : SB (sCons (sSetIx (pIx (pVar i) xi) mi me) rest) env (q3.bind fun a => q.bind fun l => q2.bind fun y => (set2 x a l y).bind k) Z := fun r e => by
  obtain ⟨a, ea, e⟩ := bs e
  obtain ⟨l, el, e⟩ := bs e
  obtain ⟨y, ey, e⟩ := bs e
  obtain ⟨x', ex, e⟩ := bs e
  obtain ⟨o, h1, h2⟩ := hk x' r e
  cases a with
  | int a =>
    simp only [set2, intD?, Option.bind_some] at ex
    obtain ⟨w, ew, ex⟩ := bs ex
    obtain ⟨row, er, ex⟩ := bs ex
    simp only [Option.map_eq_some_iff] at ex
    obtain ⟨r', er', rfl⟩ := ex
    cases l with
    | int l =>
      simp only [setL, intD?, Option.bind_some, Option.map_eq_some_iff] at er'
      obtain ⟨w2, ew2, rfl⟩ := er'
      refine ⟨o, ?_, h2⟩
      simp only [sCons, sSetIx, hi _ el, he _ ey, Option.bind_some, ev_int, ev_pure]
      rw [upd_at2 h ht (hx _ ea) ew er (x' := row.set w2 y) (by unfold setN; rw [List.length_map, ew2]; simp [List.map_set])]
      simpa using h1
    | _ => simp [setL, intD?] at er'
  | _ => simp [set2, intD?] at ex
theorem popN_at {t : T} {x : List D} (h : env[i]? = some (some t)) (ht : t.strip = own1 x) {l : Int} {x' : List D} {d : D} (hp : popL x l = some (x', d)) : popN (pVar i) l env = some (env.set i (some (t.wrap (own1 x'))), d) := by
  obtain ⟨w, ew, hp⟩ := bs hp
  simp only [Option.map_eq_some_iff] at hp
  obtain ⟨y, ey, hp⟩ := hp
  simp only [Prod.mk.injEq] at hp
  obtain ⟨rfl, rfl⟩ := hp
  have hs : slotT env i = some t := by simp [slotT, h]
  have e2 : (x.map T.p)[w]? = some (.p y) := by simp [ey]
  simp only [popN, pVar, hs, Option.map_some, Option.bind_some, T.at, T.put, ht, own1, List.length_map, ew, e2, ev_pure, map_erase]
theorem sb_setPop {t : T} {x : List D} {k : List D × D → Option R} (h : env[i]? = some (some t)) (ht : t.strip = own1 x) (hk : ∀ xd, SB rest ((env.set i (some (t.wrap (own1 xd.1)))).set j (some (.p xd.2))) (k xd) Z) : SB (sCons (sSetPop j (pVar i)) rest) env ((popL x (-1)).bind k) Z := fun r e => by
  obtain ⟨⟨x', d⟩, ex, e⟩ := bs e
  obtain ⟨o, h1, h2⟩ := hk (x', d) r e
  exact ⟨o, by simp only [sCons, sSetPop, popN_at h ht ex, Option.map_some, Option.bind_some, h1], h2⟩
theorem sb_setPopAt {t : T} {x : List D} {k : List D × D → Option R} (h : env[i]? = some (some t)) (ht : t.strip = own1 x) (hi : EX mi env q) (hk : ∀ xd, SB rest ((env.set i (some (t.wrap (own1 xd.1)))).set j (some (.p xd.2))) (k xd) Z) : SB (sCons (sSetPopAt j (pVar i) mi) rest) env (q.bind fun l => (popK x l).bind k) Z := fun r e => by
  obtain ⟨l, el, e⟩ := bs e
  obtain ⟨⟨x', d⟩, ex, e⟩ := bs e
  obtain ⟨o, h1, h2⟩ := hk (x', d) r e
  cases l with
  | int l =>
    simp only [popK, intD?, Option.bind_some] at ex
    split at ex
    · rename_i hl
      exact ⟨o, by simp only [sCons, sSetPopAt, hi _ el, Option.bind_some, ev_int, hl, and_self, if_true, popN_at h ht ex, Option.map_some, h1], h2⟩
    · simp at ex
  | _ => simp [popK, intD?] at ex
theorem sb_popAt {t : T} {x : List D} {k : List D × D → Option R} (h : env[i]? = some (some t)) (ht : t.strip = own1 x) (hi : EX mi env q) (hk : ∀ xd, SB rest (env.set i (some (t.wrap (own1 xd.1)))) (k xd) Z) : SB (sCons (sPopAt (pVar i) mi) rest) env (q.bind fun l => (popK x l).bind k) Z := fun r e => by
  obtain ⟨l, el, e⟩ := bs e
  obtain ⟨⟨x', d⟩, ex, e⟩ := bs e
  obtain ⟨o, h1, h2⟩ := hk (x', d) r e
  cases l with
  | int l =>
    simp only [popK, intD?, Option.bind_some] at ex
    split at ex
    · rename_i hl
      obtain ⟨w, ew, ex⟩ := bs ex
      simp only [Option.map_eq_some_iff] at ex
      obtain ⟨y, ey, ex⟩ := ex
      simp only [Prod.mk.injEq] at ex
      obtain ⟨rfl, rfl⟩ := ex
      refine ⟨o, ?_, h2⟩
      simp only [sCons, sPopAt, hi _ el, Option.bind_some, ev_int, hl, and_self, if_true]
      rw [upd_at h ht (x' := x.eraseIdx w) (by rw [List.length_map, ew]; simp [map_erase])]
      simpa using h1
    · simp at ex
  | _ => simp [popK, intD?] at ex
theorem sb_dput {t : T} {x : List (Key × D)} {k : List (Key × D) → Option R} (h : env[i]? = some (some t)) (ht : t.strip = .md x) (hi : EX mk env q) (he : EX me env q2) (hk : ∀ x', SB rest (env.set i (some (t.wrap (.md x')))) (k x') Z) : SB (sCons (M.sDPut i mk me) rest) env (q2.bind fun y => q.bind fun l => (putP x l y).bind k) Z := fun r e => by
  obtain ⟨y, ey, e⟩ := bs e
  obtain ⟨l, el, e⟩ := bs e
  obtain ⟨x', ex, e⟩ := bs e
  obtain ⟨o, h1, h2⟩ := hk x' r e
  obtain ⟨kk, ek, ex⟩ := bs ex
  split at ex
  · rename_i hl
    simp only [Option.some.injEq] at ex
    subst ex
    have hs : slotT env i = some t := by simp [slotT, h]
    refine ⟨o, ?_, h2⟩
    simp only [sCons, M.sDPut, hi _ el, he _ ey, Option.bind_some, ev_pure, ek, hs, ht, hl, if_true]
    simpa using h1
  · simp at ex
end
/-! ### loops -/
def fold {S : Type} (step : S → D → Option S) : List D → S → Option S
  | [], s => some s
  | d :: r, s => (step s d).bind fun s => fold step r s
def foldC {S : Type} (step : S → D → Option (Ct S)) : List D → S → Option (Ct S)
  | [], s => some (.nx s)
  | d :: r, s => (step s d).bind fun c => match c with
    | .nx s => foldC step r s
    | .bk s => some (.nx s)
    | .rt d => some (.rt d)
def whl {S : Type} (c : S → Option Bool) (step : S → Option S) : Nat → S → Option S
  | 0, _ => none
  | n + 1, s => xif (c s) ((step s).bind fun s => whl c step n s) (some s)
def whlC {S : Type} (c : S → Option Bool) (step : S → Option (Ct S)) : Nat → S → Option (Ct S)
  | 0, _ => none
  | n + 1, s => xif (c s) ((step s).bind fun r => match r with
    | .nx s => whlC c step n s
    | .bk s => some (.nx s)
    | .rt d => some (.rt d)) (some (.nx s))
/-- behind a loop that may return -/
def aft {S R : Type} (p : Option (Ct S)) (kr : D → R) (k : S → Option R) : Option R := p.bind fun c => match c with
  | .nx s => k s
  | .bk _ => none
  | .rt d => some (kr d)
section
variable {R S J : Type} {env : En} {rest mb : SM} {Z : R → Out → Prop} {mi : En → Option (List D)} {il : Option (List D)} {g : D → En → Option En} {enc : S → J → En} {RT : D → T → Prop}
theorem for_run {step : S → D → Option S} (hb : ∀ s j d r, step s d = some r → ∃ e1 o, g d (enc s j) = some e1 ∧ mb e1 = some o ∧ ZN enc r o) : ∀ (ds : List D) (s : S) (j : J) (s' : S), fold step ds s = some s' → ∃ j', forRun g mb ds (enc s j) = some (.nx (enc s' j'))
  | [], s, j, s', e => by simp only [fold, Option.some.injEq] at e; subst e; exact ⟨j, rfl⟩
  | d :: r, s, j, s', e => by
    obtain ⟨s1, e1, e⟩ := bs e
    obtain ⟨en, o, h1, h2, j1, h3⟩ := hb s j d s1 e1
    obtain ⟨j', h4⟩ := for_run hb r s1 j1 s' e
    refine ⟨j', ?_⟩
    rcases h3 with rfl | rfl <;> simp only [forRun, h1, h2, Option.bind_some, h4]
theorem sb_for {step : S → D → Option S} {s0 : S} {j0 : J} {k : S → Option R} (hi : IX mi env il) (h0 : env = enc s0 j0) (hb : ∀ s j d r, step s d = some r → ∃ e1 o, g d (enc s j) = some e1 ∧ mb e1 = some o ∧ ZN enc r o) (hk : ∀ s j, SB rest (enc s j) (k s) Z) : SB (sCons (sFor mi g mb) rest) env (il.bind fun ds => (fold step ds s0).bind k) Z := fun r e => by
  obtain ⟨ds, ed, e⟩ := bs e
  obtain ⟨s, es, e⟩ := bs e
  subst h0
  obtain ⟨j, h1⟩ := for_run hb ds s0 j0 s es
  obtain ⟨o, h2, h3⟩ := hk s j r e
  exact ⟨o, by simp only [sCons, sFor, hi ds ed, Option.bind_some, h1, h2], h3⟩
theorem stepN {step : S → D → Option S} {i : Nat} (hb : ∀ s j d, SB mb ((enc s j).set i (some (.p d))) (step s d) (ZN enc)) : ∀ s j d r, step s d = some r → ∃ e1 o, gNm i d (enc s j) = some e1 ∧ mb e1 = some o ∧ ZN enc r o := fun s j d r e => by
  obtain ⟨o, h1, h2⟩ := hb s j d r e
  exact ⟨_, o, rfl, h1, h2⟩
theorem step2 {step : S → D → D → Option S} {i i2 : Nat} (hb : ∀ s j x y, SB mb (((enc s j).set i (some (.p x))).set i2 (some (.p y))) (step s x y) (ZN enc)) : ∀ s j d r, (un2 d fun x y => step s x y) = some r → ∃ e1 o, g2 i i2 d (enc s j) = some e1 ∧ mb e1 = some o ∧ ZN enc r o := fun s j d r e => by
  obtain ⟨x, y, rfl, e⟩ := un2_eq e
  obtain ⟨o, h1, h2⟩ := hb s j x y r e
  exact ⟨_, o, rfl, h1, h2⟩
theorem step3 {step : S → D → D → D → Option S} {i i2 i3 : Nat} (hb : ∀ s j x y z, SB mb ((((enc s j).set i (some (.p x))).set i2 (some (.p y))).set i3 (some (.p z))) (step s x y z) (ZN enc)) : ∀ s j d r, (un3 d fun x y z => step s x y z) = some r → ∃ e1 o, g3 i i2 i3 d (enc s j) = some e1 ∧ mb e1 = some o ∧ ZN enc r o := fun s j d r e => by
  obtain ⟨x, y, z, rfl, e⟩ := un3_eq e
  obtain ⟨o, h1, h2⟩ := hb s j x y z r e
  exact ⟨_, o, rfl, h1, h2⟩
theorem for_runC {step : S → D → Option (Ct S)} (hb : ∀ s j d r, step s d = some r → ∃ e1 o, g d (enc s j) = some e1 ∧ mb e1 = some o ∧ ZC RT enc r o) : ∀ (ds : List D) (s : S) (j : J) (r : Ct S), foldC step ds s = some r → match r with
    | .nx s' => ∃ j', forRun g mb ds (enc s j) = some (.nx (enc s' j'))
    | .bk _ => True
    | .rt d => ∃ t, forRun g mb ds (enc s j) = some (.rt t) ∧ RT d t
  | [], s, j, r, e => by simp only [foldC, Option.some.injEq] at e; subst e; exact ⟨j, rfl⟩
  | d :: r, s, j, c, e => by
    obtain ⟨c1, e1, e⟩ := bs e
    obtain ⟨en, o, h1, h2, h3⟩ := hb s j d c1 e1
    cases c1 with
    | nx s1 =>
      obtain ⟨j1, h3⟩ := h3
      have ih := for_runC hb r s1 j1 c e
      have e2 : forRun g mb (d :: r) (enc s j) = forRun g mb r (enc s1 j1) := by
        rcases h3 with rfl | rfl <;> simp only [forRun, h1, h2, Option.bind_some]
      rw [e2]; exact ih
    | bk s1 =>
      obtain ⟨j1, rfl⟩ := h3
      simp only [Option.some.injEq] at e
      subst e
      exact ⟨j1, by simp only [forRun, h1, h2, Option.bind_some]⟩
    | rt d1 =>
      obtain ⟨t, rfl, h3⟩ := h3
      simp only [Option.some.injEq] at e
      subst e
      exact ⟨t, by simp only [forRun, h1, h2, Option.bind_some], h3⟩
theorem sb_forC {step : S → D → Option (Ct S)} {s0 : S} {j0 : J} {kr : D → R} {k : S → Option R} (hi : IX mi env il) (h0 : env = enc s0 j0) (hb : ∀ s j d r, step s d = some r → ∃ e1 o, g d (enc s j) = some e1 ∧ mb e1 = some o ∧ ZC RT enc r o) (hr : ∀ d t, RT d t → Z (kr d) (.rt t)) (hk : ∀ s j, SB rest (enc s j) (k s) Z) : SB (sCons (sFor mi g mb) rest) env (il.bind fun ds => aft (foldC step ds s0) kr k) Z := fun r e => by
  obtain ⟨ds, ed, e⟩ := bs e
  obtain ⟨c, es, e⟩ := bs e
  subst h0
  have h1 := for_runC hb ds s0 j0 c es
  cases c with
  | nx s =>
    obtain ⟨j, h1⟩ := h1
    obtain ⟨o, h2, h3⟩ := hk s j r e
    exact ⟨o, by simp only [sCons, sFor, hi ds ed, Option.bind_some, h1, h2], h3⟩
  | bk s => simp at e
  | rt d =>
    obtain ⟨t, h1, h2⟩ := h1
    simp only [Option.some.injEq] at e
    subst e
    exact ⟨_, by simp only [sCons, sFor, hi ds ed, Option.bind_some, h1], hr d t h2⟩
theorem stepNC {step : S → D → Option (Ct S)} {i : Nat} (hb : ∀ s j d, SB mb ((enc s j).set i (some (.p d))) (step s d) (ZC RT enc)) : ∀ s j d r, step s d = some r → ∃ e1 o, gNm i d (enc s j) = some e1 ∧ mb e1 = some o ∧ ZC RT enc r o := fun s j d r e => by
  obtain ⟨o, h1, h2⟩ := hb s j d r e
  exact ⟨_, o, rfl, h1, h2⟩
theorem step2C {step : S → D → D → Option (Ct S)} {i i2 : Nat} (hb : ∀ s j x y, SB mb (((enc s j).set i (some (.p x))).set i2 (some (.p y))) (step s x y) (ZC RT enc)) : ∀ s j d r, (un2 d fun x y => step s x y) = some r → ∃ e1 o, g2 i i2 d (enc s j) = some e1 ∧ mb e1 = some o ∧ ZC RT enc r o := fun s j d r e => by
  obtain ⟨x, y, rfl, e⟩ := un2_eq e
  obtain ⟨o, h1, h2⟩ := hb s j x y r e
  exact ⟨_, o, rfl, h1, h2⟩
theorem step3C {step : S → D → D → D → Option (Ct S)} {i i2 i3 : Nat} (hb : ∀ s j x y z, SB mb ((((enc s j).set i (some (.p x))).set i2 (some (.p y))).set i3 (some (.p z))) (step s x y z) (ZC RT enc)) : ∀ s j d r, (un3 d fun x y z => step s x y z) = some r → ∃ e1 o, g3 i i2 i3 d (enc s j) = some e1 ∧ mb e1 = some o ∧ ZC RT enc r o := fun s j d r e => by
  obtain ⟨x, y, z, rfl, e⟩ := un3_eq e
  obtain ⟨o, h1, h2⟩ := hb s j x y z r e
  exact ⟨_, o, rfl, h1, h2⟩
theorem whl_run {c : En → Option Bool} {pc : S → Option Bool} {step : S → Option S} (hc : ∀ s j, BX c (enc s j) (pc s)) (hb : ∀ s j, SB mb (enc s j) (step s) (ZN enc)) : ∀ (n : Nat) (s : S) (j : J) (s' : S), whl pc step n s = some s' → ∃ j', whileRun c mb n (enc s j) = some (.nx (enc s' j'))
  | 0, _, _, _, e => by simp [whl] at e
  | n + 1, s, j, s', e => by
    obtain ⟨b, eb, e⟩ := bs e
    cases b with
    | true =>
      simp only [if_true] at e
      obtain ⟨s1, e1, e⟩ := bs e
      obtain ⟨o, h1, j1, h2⟩ := hb s j s1 e1
      obtain ⟨j', h3⟩ := whl_run hc hb n s1 j1 s' e
      refine ⟨j', ?_⟩
      rcases h2 with rfl | rfl <;> simp only [whileRun, hc s j _ eb, h1, h3, Option.bind_some, if_true]
    | false =>
      simp only [Bool.false_eq_true, if_false, Option.some.injEq] at e
      subst e
      exact ⟨j, by simp only [whileRun, hc s j _ eb, Option.bind_some, Bool.false_eq_true, if_false]⟩
theorem sb_whl {c : En → Option Bool} {pc : S → Option Bool} {step : S → Option S} {s0 : S} {j0 : J} {n : Nat} {k : S → Option R} (h0 : env = enc s0 j0) (hc : ∀ s j, BX c (enc s j) (pc s)) (hb : ∀ s j, SB mb (enc s j) (step s) (ZN enc)) (hk : ∀ s j, SB rest (enc s j) (k s) Z) : SB (sCons (sWhile n c mb) rest) env ((whl pc step n s0).bind k) Z := fun r e => by
  obtain ⟨s, es, e⟩ := bs e
  subst h0
  obtain ⟨j, h1⟩ := whl_run hc hb n s0 j0 s es
  obtain ⟨o, h2, h3⟩ := hk s j r e
  exact ⟨o, by simp only [sCons, sWhile, h1, Option.bind_some, h2], h3⟩
theorem whl_runC {c : En → Option Bool} {pc : S → Option Bool} {step : S → Option (Ct S)} (hc : ∀ s j, BX c (enc s j) (pc s)) (hb : ∀ s j, SB mb (enc s j) (step s) (ZC RT enc)) : ∀ (n : Nat) (s : S) (j : J) (r : Ct S), whlC pc step n s = some r → match r with
    | .nx s' => ∃ j', whileRun c mb n (enc s j) = some (.nx (enc s' j'))
    | .bk _ => True
    | .rt d => ∃ t, whileRun c mb n (enc s j) = some (.rt t) ∧ RT d t
  | 0, _, _, _, e => by simp [whlC] at e
  | n + 1, s, j, r, e => by
    obtain ⟨b, eb, e⟩ := bs e
    cases b with
    | true =>
      simp only [if_true] at e
      obtain ⟨c1, e1, e⟩ := bs e
      obtain ⟨o, h1, h2⟩ := hb s j c1 e1
      cases c1 with
      | nx s1 =>
        obtain ⟨j1, h2⟩ := h2
        have ih := whl_runC hc hb n s1 j1 r e
        have e2 : whileRun c mb (n + 1) (enc s j) = whileRun c mb n (enc s1 j1) := by
          rcases h2 with rfl | rfl <;> simp only [whileRun, hc s j _ eb, h1, Option.bind_some, if_true]
        rw [e2]; exact ih
      | bk s1 =>
        obtain ⟨j1, rfl⟩ := h2
        simp only [Option.some.injEq] at e
        subst e
        exact ⟨j1, by simp only [whileRun, hc s j _ eb, h1, Option.bind_some, if_true]⟩
      | rt d1 =>
        obtain ⟨t, rfl, h3⟩ := h2
        simp only [Option.some.injEq] at e
        subst e
        exact ⟨t, by simp only [whileRun, hc s j _ eb, h1, Option.bind_some, if_true], h3⟩
    | false =>
      simp only [Bool.false_eq_true, if_false, Option.some.injEq] at e
      subst e
      exact ⟨j, by simp only [whileRun, hc s j _ eb, Option.bind_some, Bool.false_eq_true, if_false]⟩
theorem sb_whlC {c : En → Option Bool} {pc : S → Option Bool} {step : S → Option (Ct S)} {s0 : S} {j0 : J} {n : Nat} {kr : D → R} {k : S → Option R} (h0 : env = enc s0 j0) (hc : ∀ s j, BX c (enc s j) (pc s)) (hb : ∀ s j, SB mb (enc s j) (step s) (ZC RT enc)) (hr : ∀ d t, RT d t → Z (kr d) (.rt t)) (hk : ∀ s j, SB rest (enc s j) (k s) Z) : SB (sCons (sWhile n c mb) rest) env (aft (whlC pc step n s0) kr k) Z := fun r e => by
  obtain ⟨cc, es, e⟩ := bs e
  subst h0
  have h1 := whl_runC hc hb n s0 j0 cc es
  cases cc with
  | nx s =>
    obtain ⟨j, h1⟩ := h1
    obtain ⟨o, h2, h3⟩ := hk s j r e
    exact ⟨o, by simp only [sCons, sWhile, h1, Option.bind_some, h2], h3⟩
  | bk s => simp at e
  | rt d =>
    obtain ⟨t, h1, h2⟩ := h1
    simp only [Option.some.injEq] at e
    subst e
    exact ⟨_, by simp only [sCons, sWhile, h1, Option.bind_some], hr d t h2⟩
end
end N
section
set_option maxHeartbeats 4000000
open PySem PySem.Spec PyProof.Rows L2 M N
noncomputable section
def P.law_cell_at (x0 : List Int) (x1 : D) : Option D := qc Q.law_cell_at [.sc x0, .p x1]
theorem R.law_cell_at (x0 : List Int) (x1 : D) : FR RTs (Q.law_cell_at [.sc x0, .p x1]) (P.law_cell_at x0 x1) := fr_qc rfl
def P.law_draws (x0 : D) (x1 : D) (x2 : D) : Option D := qc Q.law_draws [.p x0, .p x1, .p x2]
theorem R.law_draws (x0 : D) (x1 : D) (x2 : D) : FR RTs (Q.law_draws [.p x0, .p x1, .p x2]) (P.law_draws x0 x1 x2) := fr_qc rfl
def P.law_best_good (x0 : D) (x1 : D) (x2 : D) : Option D := qc Q.law_best_good [.p x0, .p x1, .p x2]
theorem R.law_best_good (x0 : D) (x1 : D) (x2 : D) : FR RTs (Q.law_best_good [.p x0, .p x1, .p x2]) (P.law_best_good x0 x1 x2) := fr_qc rfl
def P.law_a_book (x0 : List Int) (x1 : D) (x2 : D) : Option D := qc Q.law_a_book [.sc x0, .p x1, .p x2]
theorem R.law_a_book (x0 : List Int) (x1 : D) (x2 : D) : FR RTs (Q.law_a_book [.sc x0, .p x1, .p x2]) (P.law_a_book x0 x1 x2) := fr_qc rfl
def P.cost_at (x0 : D) (x1 : D) : Option D := qc Q.cost_at [.p x0, .p x1]
theorem R.cost_at (x0 : D) (x1 : D) : FR RTs (Q.cost_at [.p x0, .p x1]) (P.cost_at x0 x1) := fr_qc rfl
def P.costs_of (x0 : D) : Option D := qc Q.costs_of [.p x0]
theorem R.costs_of (x0 : D) : FR RTs (Q.costs_of [.p x0]) (P.costs_of x0) := fr_qc rfl
def P.divisor (x0 : D) (x1 : D) : Option D := qc Q.divisor [.p x0, .p x1]
theorem R.divisor (x0 : D) (x1 : D) : FR RTs (Q.divisor [.p x0, .p x1]) (P.divisor x0 x1) := fr_qc rfl
def P.fraction (x0 : D) (x1 : D) : Option D := qc Q.fraction [.p x0, .p x1]
theorem R.fraction (x0 : D) (x1 : D) : FR RTs (Q.fraction [.p x0, .p x1]) (P.fraction x0 x1) := fr_qc rfl
def P.share_of (x0 : D) (x1 : D) (x2 : D) : Option D := qc Q.share_of [.p x0, .p x1, .p x2]
theorem R.share_of (x0 : D) (x1 : D) (x2 : D) : FR RTs (Q.share_of [.p x0, .p x1, .p x2]) (P.share_of x0 x1 x2) := fr_qc rfl
def P.is_less (x0 : D) (x1 : D) : Option D := qc Q.is_less [.p x0, .p x1]
theorem R.is_less (x0 : D) (x1 : D) : FR RTs (Q.is_less [.p x0, .p x1]) (P.is_less x0 x1) := fr_qc rfl
def P.greater (x0 : D) (x1 : D) : Option D := qc Q.greater [.p x0, .p x1]
theorem R.greater (x0 : D) (x1 : D) : FR RTs (Q.greater [.p x0, .p x1]) (P.greater x0 x1) := fr_qc rfl
def P.least_through (x0 : D) : Option D := qc Q.least_through [.p x0]
theorem R.least_through (x0 : D) : FR RTs (Q.least_through [.p x0]) (P.least_through x0) := fr_qc rfl
def P.way_between (x0 : D) (x1 : D) (x2 : D) : Option D := qc Q.way_between [.p x0, .p x1, .p x2]
theorem R.way_between (x0 : D) (x1 : D) (x2 : D) : FR RTs (Q.way_between [.p x0, .p x1, .p x2]) (P.way_between x0 x1 x2) := fr_qc rfl
def P.leak (x0 : D) : Option D := qc Q.leak [.p x0]
theorem R.leak (x0 : D) : FR RTs (Q.leak [.p x0]) (P.leak x0) := fr_qc rfl
abbrev RT_law_less := RTp
def P.law_less (one : D) (other : D) : Option D := xop ltT (xop mulT (xop idxT (some one) (some (.int 0))) (xop idxT (some other) (some (.int 1)))) (xop mulT (xop idxT (some other) (some (.int 0))) (xop idxT (some one) (some (.int 1))))
theorem R.law_less (one : D) (other : D) : FR RT_law_less (Q.law_less [.p one, .p other]) (P.law_less one other) := by
  unfold Q.law_less P.law_less
  exact run_fr (show SB _ [some (.p one), some (.p other)] _ _ from sb_one (sb_ret0 (e_op (e_op (e_op (e_var rfl) (e_c)) (e_op (e_var rfl) (e_c))) (e_op (e_op (e_var rfl) (e_c)) (e_op (e_var rfl) (e_c)))) (fun d => .inl ⟨_, rfl, rfl⟩)))
abbrev RT_law_a_share := RTp
def P.law_a_share_E1 (costs : D) (numbers : D) (s : D) (j : (Option T) × (Option T) × (Option T)) : En := [some (.p costs), some (.p numbers), some (.p s), j.1, j.2.1, j.2.2]
def P.law_a_share_E2 (costs : D) (numbers : D) (k : D) (one : D) (here : D) (s : D) (j : Unit) : En := [some (.p costs), some (.p numbers), some (.p s), some (.p k), some (.p one), some (.p here)]
def P.law_a_share_L1 (numbers : D) (costs : D) (best_2 : D) (k : D) : Option (D) := (xop idxT (some numbers) (xop subT (some k) (some (.int 1)))).bind fun one => (xtup [xop idxT (xop idxT (some costs) (some one)) (xop idxT (some numbers) (some k)), xop idxT (xop idxT (some costs) (some one)) (some one)]).bind fun here => (xif (xbool (ap2 P.law_less (some best_2) (some here))) ((some here).bind fun best_3 => some best_3) (some best_2)).bind fun best_4 => some best_4
theorem R.law_a_share_L1 (costs : D) (numbers : D) (best_2 : D) (k : D) (jk : Option T) (jone : Option T) (jhere : Option T) : SB Q.law_a_share_L1 [some (.p costs), some (.p numbers), some (.p best_2), some (.p k), jone, jhere] (P.law_a_share_L1 numbers costs best_2 k) (ZN (P.law_a_share_E1 costs numbers)) := by
  unfold Q.law_a_share_L1 P.law_a_share_L1
  exact sb_set (e_op (e_var rfl) (e_op (e_var rfl) (e_c))) (fun one => show SB _ [some (.p costs), some (.p numbers), some (.p best_2), some (.p k), some (.p one), jhere] _ _ from sb_set (e_tup (a_cons (e_op (e_op (e_var rfl) (e_var rfl)) (e_op (e_var rfl) (e_var rfl))) (a_cons (e_op (e_op (e_var rfl) (e_var rfl)) (e_var rfl)) (a_nil)))) (fun here => show SB _ [some (.p costs), some (.p numbers), some (.p best_2), some (.p k), some (.p one), some (.p here)] _ _ from sb_one (sb_ifJ (enc := P.law_a_share_E2 costs numbers k one here) (b_val (e_call2 (e_var rfl) (e_var rfl) fz_p fz_p (fun a b => FR.ps (R.law_less a b)))) (sb_one (sb_set (e_var rfl) (fun best_3 => sb_nil ⟨(), rfl⟩))) (sb_nil ⟨(), rfl⟩) (fun best_4 jj => sb_nil ⟨(some (.p k), some (.p one), some (.p here)), .inl rfl⟩))))
def P.law_a_share (costs : D) (numbers : D) : Option D := (xtup [some (.int 0), some (.int 1)]).bind fun best => (irng1 (xf1 lenT (some numbers))).bind fun ds => (fold (fun s d => P.law_a_share_L1 numbers costs s d) ds best).bind fun best_5 => some best_5
theorem R.law_a_share (costs : D) (numbers : D) : FR RT_law_a_share (Q.law_a_share [.p costs, .p numbers]) (P.law_a_share costs numbers) := by
  unfold Q.law_a_share P.law_a_share
  exact run_fr (show SB _ [some (.p costs), some (.p numbers), none, none, none, none] _ _ from sb_set (e_tup (a_cons (e_c) (a_cons (e_c) (a_nil)))) (fun best => show SB _ [some (.p costs), some (.p numbers), some (.p best), none, none, none] _ _ from sb_for (enc := P.law_a_share_E1 costs numbers) (j0 := (none, none, none)) (i_rng1 (e_f1 (e_var rfl))) rfl (stepN (fun s j d => R.law_a_share_L1 costs numbers s d j.1 j.2.1 j.2.2)) (fun best_5 jj_2 => show SB _ [some (.p costs), some (.p numbers), some (.p best_5), jj_2.1, jj_2.2.1, jj_2.2.2] _ _ from sb_one (sb_retV rfl (.inl ⟨_, rfl, rfl⟩)))))
def P.law_cost (x0 : D) (x1 : D) : Option D := qc Q.law_cost [.p x0, .p x1]
theorem R.law_cost (x0 : D) (x1 : D) : FR RTs (Q.law_cost [.p x0, .p x1]) (P.law_cost x0 x1) := fr_qc rfl
def P.law_a_costs (x0 : D) : Option D := qc Q.law_a_costs [.p x0]
theorem R.law_a_costs (x0 : D) : FR RTs (Q.law_a_costs [.p x0]) (P.law_a_costs x0) := fr_qc rfl
abbrev RT_k36_law := RTp
def P.k36_law (script : List Int) : Option D := (ap3 P.law_a_book (some script) (some (.int 0)) (some (.int 10))).bind fun book => (xop addT (some book) (xlst [xtup [xrev (xop idxT (xop idxT (some book) (some (.int 0))) (some (.int 0))), xop idxT (xop idxT (some book) (xneg (some (.int 1)))) (some (.int 1))]])).bind fun book_2 => (ap3 P.law_draws (ap2 P.law_cell_at (some script) (some (.int 2))) (some (.int 4)) (some (.int 1000))).bind fun picks => (ap1 P.leak (some book_2)).bind fun d => un2 d fun share numbers => (xop modT (xop idxT (some picks) (some (.int 0))) (xf1 lenT (some book_2))).bind fun at_v => (xop idxT (some book_2) (some at_v)).bind fun d => un2 d fun prices amounts => (xop addT (some (.int 1)) (xop modT (xop idxT (some picks) (some (.int 1))) (xf2 maxT (some (.int 1)) (xf2 minT (some (.int 90)) (xop fdivT (xop powT (some (.int 10)) (some (.int 6))) (xf1 maxT (some prices))))))).bind fun by_v => (iseq (some book_2)).bind fun great => (some at_v).bind fun l => (xtup [xf1 tupleT (xmap (fun price => xop mulT (some price) (some by_v)) (iseq (some prices))), some amounts]).bind fun y => (setL great l y).bind fun great_2 => xif (xor' (xbool (xop M.neT (xop idxT (ap1 P.leak (some ((.list great_2)))) (some (.int 0))) (some share))) (xbool (xop M.neT (xop idxT (ap1 P.leak (xop addT (xslice (some book_2) (xint (some at_v)) (some none)) (xslice (some book_2) (some none) (xint (some at_v))))) (some (.int 0))) (some share)))) (some (.bool false)) ((xop idxT (ap1 P.leak (xop addT (some book_2) (xlst [xop idxT (some book_2) (some at_v)]))) (some (.int 0))).bind fun twice => xif (xbool (xop M.neT (some twice) (xop idxT (xlst [some share, xtup [some (.int 1), some (.int 1)]]) (xf1 intT (ap2 P.law_less (xtup [some (.int 1), some (.int 1)]) (some share)))))) (some (.bool false)) (xif (xand (xbool (xop gtT (xf1 lenT (some book_2)) (some (.int 2)))) (xbool (ap2 P.law_less (xop idxT (ap1 P.leak (xop addT (xslice (some book_2) (some none) (xint (some at_v))) (xslice (some book_2) (xint (xop addT (some at_v) (some (.int 1)))) (some none)))) (some (.int 0))) (some share)))) (some (.bool false)) ((xmap (fun number => xop subT (xop subT (xf1 lenT (some book_2)) (some (.int 1))) (some number)) (iseq (some numbers))).bind fun moved => (ap2 P.law_a_share (ap1 P.law_a_costs (xrev (some book_2))) (some moved)).bind fun own => xmand (xmnot (ap2 P.law_less (some own) (some share))) (xmnot (ap2 P.law_less (some share) (some own))))))
theorem R.k36_law (script : List Int) : FR RT_k36_law (Q.k36_law [.sc script]) (P.k36_law script) := by
  unfold Q.k36_law P.k36_law
  exact run_fr (show SB _ [some (.sc script), none, none, none, none, none, none, none, none, none, none, none, none, none, none] _ _ from sb_set (e_call3 (e_var rfl) (e_c) (e_c) fz_sc fz_p fz_p (fun a b c => R.law_a_book a b c)) (fun book => show SB _ [some (.sc script), some (.p book), none, none, none, none, none, none, none, none, none, none, none, none, none] _ _ from sb_set (e_op (e_var rfl) (e_lst (a_cons (e_tup (a_cons (e_rev (e_op (e_op (e_var rfl) (e_c)) (e_c))) (a_cons (e_op (e_op (e_var rfl) (e_neg (e_c))) (e_c)) (a_nil)))) (a_nil)))) (fun book_2 => show SB _ [some (.sc script), some (.p book_2), none, none, none, none, none, none, none, none, none, none, none, none, none] _ _ from sb_set (e_call3 (e_call2 (e_var rfl) (e_c) fz_sc fz_p (fun a b => R.law_cell_at a b)) (e_c) (e_c) fz_p fz_p fz_p (fun a b c => R.law_draws a b c)) (fun picks => show SB _ [some (.sc script), some (.p book_2), some (.p picks), none, none, none, none, none, none, none, none, none, none, none, none] _ _ from sb_asg2 (e_call1 (e_var rfl) fz_p (fun a => R.leak a)) (fun share numbers => show SB _ [some (.sc script), some (.p book_2), some (.p picks), some (.p share), some (.p numbers), none, none, none, none, none, none, none, none, none, none] _ _ from sb_set (e_op (e_op (e_var rfl) (e_c)) (e_f1 (e_var rfl))) (fun at_v => show SB _ [some (.sc script), some (.p book_2), some (.p picks), some (.p share), some (.p numbers), some (.p at_v), none, none, none, none, none, none, none, none, none] _ _ from sb_asg2 (e_op (e_var rfl) (e_var rfl)) (fun prices amounts => show SB _ [some (.sc script), some (.p book_2), some (.p picks), some (.p share), some (.p numbers), some (.p at_v), some (.p prices), some (.p amounts), none, none, none, none, none, none, none] _ _ from sb_set (e_op (e_c) (e_op (e_op (e_var rfl) (e_c)) (e_f2 (e_c) (e_f2 (e_c) (e_op (e_op (e_c) (e_c)) (e_f1 (e_var rfl))))))) (fun by_v => show SB _ [some (.sc script), some (.p book_2), some (.p picks), some (.p share), some (.p numbers), some (.p at_v), some (.p prices), some (.p amounts), some (.p by_v), none, none, none, none, none, none] _ _ from sb_setF (f_list (EG.w (e_var rfl))) (fun great => show SB _ [some (.sc script), some (.p book_2), some (.p picks), some (.p share), some (.p numbers), some (.p at_v), some (.p prices), some (.p amounts), some (.p by_v), some (own1 great), none, none, none, none, none] _ _ from sb_setIx rfl rfl (e_var rfl) (e_tup (a_cons (e_f1 (e_map (i_seqB (EG.w (e_var rfl))) (fun price => e_op (e_var rfl) (e_var rfl)))) (a_cons (e_var rfl) (a_nil)))) (fun great_2 => show SB _ [some (.sc script), some (.p book_2), some (.p picks), some (.p share), some (.p numbers), some (.p at_v), some (.p prices), some (.p amounts), some (.p by_v), some (own1 great_2), none, none, none, none, none] _ _ from sb_frz rfl (snap_own1 _) (sb_if (b_or (b_op (e_op (e_op (e_call1 (e_var rfl) fz_p (fun a => R.leak a)) (e_c)) (e_var rfl))) (b_op (e_op (e_op (e_call1 (e_op (e_slice (e_var rfl) (o_some (e_var rfl)) (o_none)) (e_slice (e_var rfl) (o_none) (o_some (e_var rfl)))) fz_p (fun a => R.leak a)) (e_c)) (e_var rfl)))) (sb_ret0 (e_c) (fun d => .inl ⟨_, rfl, rfl⟩)) (sb_skip (show SB _ [some (.sc script), some (.p book_2), some (.p picks), some (.p share), some (.p numbers), some (.p at_v), some (.p prices), some (.p amounts), some (.p by_v), some (.p ((.list great_2))), none, none, none, none, none] _ _ from sb_set (e_op (e_call1 (e_op (e_var rfl) (e_lst (a_cons (e_op (e_var rfl) (e_var rfl)) (a_nil)))) fz_p (fun a => R.leak a)) (e_c)) (fun twice => show SB _ [some (.sc script), some (.p book_2), some (.p picks), some (.p share), some (.p numbers), some (.p at_v), some (.p prices), some (.p amounts), some (.p by_v), some (.p ((.list great_2))), some (.p twice), none, none, none, none] _ _ from sb_if (b_op (e_op (e_var rfl) (e_op (e_lst (a_cons (e_var rfl) (a_cons (e_tup (a_cons (e_c) (a_cons (e_c) (a_nil)))) (a_nil)))) (e_f1 (e_call2 (e_tup (a_cons (e_c) (a_cons (e_c) (a_nil)))) (e_var rfl) fz_p fz_p (fun a b => FR.ps (R.law_less a b))))))) (sb_ret0 (e_c) (fun d => .inl ⟨_, rfl, rfl⟩)) (sb_skip (show SB _ [some (.sc script), some (.p book_2), some (.p picks), some (.p share), some (.p numbers), some (.p at_v), some (.p prices), some (.p amounts), some (.p by_v), some (.p ((.list great_2))), some (.p twice), none, none, none, none] _ _ from sb_if (b_and (b_op (e_op (e_f1 (e_var rfl)) (e_c))) (b_val (e_call2 (e_op (e_call1 (e_op (e_slice (e_var rfl) (o_none) (o_some (e_var rfl))) (e_slice (e_var rfl) (o_some (e_op (e_var rfl) (e_c))) (o_none))) fz_p (fun a => R.leak a)) (e_c)) (e_var rfl) fz_p fz_p (fun a b => FR.ps (R.law_less a b))))) (sb_ret0 (e_c) (fun d => .inl ⟨_, rfl, rfl⟩)) (sb_skip (show SB _ [some (.sc script), some (.p book_2), some (.p picks), some (.p share), some (.p numbers), some (.p at_v), some (.p prices), some (.p amounts), some (.p by_v), some (.p ((.list great_2))), some (.p twice), none, none, none, none] _ _ from sb_set (e_map (i_seqB (EG.w (e_var rfl))) (fun number => e_op (e_op (e_f1 (e_var rfl)) (e_c)) (e_var rfl))) (fun moved => show SB _ [some (.sc script), some (.p book_2), some (.p picks), some (.p share), some (.p numbers), some (.p at_v), some (.p prices), some (.p amounts), some (.p by_v), some (.p ((.list great_2))), some (.p twice), some (.p moved), none, none, none] _ _ from sb_set (e_call2 (e_call1 (e_rev (e_var rfl)) fz_p (fun a => R.law_a_costs a)) (e_var rfl) fz_p fz_p (fun a b => FR.ps (R.law_a_share a b))) (fun own => show SB _ [some (.sc script), some (.p book_2), some (.p picks), some (.p share), some (.p numbers), some (.p at_v), some (.p prices), some (.p amounts), some (.p by_v), some (.p ((.list great_2))), some (.p twice), some (.p moved), some (.p own), none, none] _ _ from sb_one (sb_ret0 (e_and (e_not (e_call2 (e_var rfl) (e_var rfl) fz_p fz_p (fun a b => FR.ps (R.law_less a b)))) (e_not (e_call2 (e_var rfl) (e_var rfl) fz_p fz_p (fun a b => FR.ps (R.law_less a b))))) (fun d => .inl ⟨_, rfl, rfl⟩))))))))))))))))))))))
end
end
/-! B1: evaluation of mirrors: loops by invariants, first defs. -/
namespace B
open PySem PySem.Spec PyProof.Rows L2 M

theorem forRun_inv {g : D → En → Option En} {mb : SM} (P : Nat → En → Prop) : ∀ (ds : List D) (env : En) (k : Nat), P k env →
    (∀ i d e, ds[i]? = some d → P (k + i) e → ∃ e1 e2, g d e = some e1 ∧ (mb e1 = some (.nx e2) ∨ mb e1 = some (.ct e2)) ∧ P (k + i + 1) e2) → ∃ e, forRun g mb ds env = some (.nx e) ∧ P (k + ds.length) e
  | [], env, k, h, _ => ⟨env, rfl, h⟩
  | d :: r, env, k, h, hs => by
    obtain ⟨e1, e2, h1, h2, h3⟩ := hs 0 d env rfl h
    obtain ⟨e, h4, h5⟩ := forRun_inv P r e2 (k + 1) h3 (fun i d' e' hd hp => by
      have := hs (i + 1) d' e' (by simpa using hd) (by rw [show k + (i + 1) = k + 1 + i by omega]; exact hp)
      rw [show k + (i + 1) + 1 = k + 1 + i + 1 by omega] at this
      exact this)
    refine ⟨e, ?_, by rw [List.length_cons, show k + (r.length + 1) = k + 1 + r.length by omega]; exact h5⟩
    simp only [forRun, h1, Option.bind_some]
    rcases h2 with h2 | h2 <;> simp only [h2, Option.bind_some, h4]

theorem fmod_pos {a b : Int} (h : 0 < b) : a.fmod b = a % b := Int.fmod_eq_emod_of_nonneg a (by omega)
theorem fdiv_pos {a b : Int} (h : 0 < b) : a.fdiv b = a / b := Int.fdiv_eq_ediv_of_nonneg a (by omega)
/-- draws: so many numbers from 0 to base -/
theorem draws (cell many base : Int) (hm : 0 ≤ many) (hm2 : many ≤ 1000) (hb : 0 < base) (hb2 : base < 2 ^ 60) :
    ∃ xs : List Int, Q.law_draws [.p (.int cell), .p (.int many), .p (.int base)] = some (.ml (xs.map fun x => T.p (.int x))) ∧ xs.length = many.toNat ∧ ∀ x ∈ xs, 0 ≤ x ∧ x < base := by
  unfold Q.law_draws runFn startE
  have hs : smallI (many + 3) := by unfold smallI; omega
  have hml : mulOk cell (if 1000000000000000000 ≤ cell then 1 else 0) = true := mulOk_r (by split <;> decide)
  have h48 : ∀ x : Int, mulOk 48271 x = true := fun x => mulOk_l (by decide)
  simp [LIM, hml, hs]
  generalize hr0 : cell * (if 1000000000000000000 ≤ cell then 1 else 0) = rest0
  let P : Nat → En → Prop := fun i e => ∃ (xs : List Int) (rest st : Int) (lk : Option T), e = [some (T.p (.int cell)), some (T.p (.int many)), some (T.p (.int base)), some (.ml (xs.map fun x => T.p (.int x))), some (.p (.int rest)), some (.p (.int st)), lk] ∧ xs.length = i - 3 ∧ (∀ x ∈ xs, 0 ≤ x ∧ x < base) ∧ 0 ≤ st ∧ st < 2305843009213693951
  have h0 : P 0 [some (T.p (.int cell)), some (T.p (.int many)), some (T.p (.int base)), some (.ml []), some (.p (.int rest0)), some (.p (.int (cell.fmod 2305843009213693951))), none] := by
    refine ⟨[], rest0, _, none, rfl, rfl, by simp, ?_⟩
    rw [fmod_pos (by decide)]
    omega
  have hstep : ∀ i d e, (rangeD 0 (many + 3))[i]? = some d → P (0 + i) e → ∃ e1 e2, gNm 6 d e = some e1 ∧ (Q.law_draws_L1 e1 = some (.nx e2) ∨ Q.law_draws_L1 e1 = some (.ct e2)) ∧ P (0 + i + 1) e2 := by
    rintro i d e hd ⟨xs, rest, st, lk, rfl, hl, hx, h0, h1⟩
    unfold Q.law_draws_L1
    have hi : i < (many + 3).toNat := by
      have := (List.getElem?_eq_some_iff.mp hd).1
      simpa [rangeD] using this
    have hd' : d = .int i := by
      simp [rangeD, hi] at hd
      exact hd.symm
    subst hd'
    have hst : mulOk st st = true := mulOk_l (by omega)
    have h4 : divOk 4096 = true := by decide
    have hbd : divOk base = true := divOk_small (by omega) (by omega)
    have hb0 : base ≠ 0 := by omega
    generalize hn : ((st * st + 48271 * st + (i : Int) + 1) % 2305843009213693951) = st'
    have hst' : 0 ≤ st' ∧ st' < 2305843009213693951 := by
      rw [← hn]; omega
    have hfl : xs.length < 1000000 := by omega
    by_cases hi2 : (2 : Int) < (i : Int)
    · have hi3 : 2 < i := by omega
      by_cases hr : 0 < rest
      · refine ⟨_, [some (T.p (.int cell)), some (T.p (.int many)), some (T.p (.int base)), some (.ml ((xs ++ [rest.fmod base]).map fun x => T.p (.int x))), some (.p (.int (rest.fdiv base))), some (.p (.int st')), some (.p (.int i))], rfl, .inl ?_, xs ++ [rest.fmod base], _, _, _, rfl, ?_, ?_, hst'⟩
        · simp [hst, h48, hi2, hi3, hr, hb0, hbd, LIM, hfl, fmod_pos, hn]
        · simp; omega
        · intro x hx'
          rcases List.mem_append.mp hx' with z | z
          · exact hx x z
          · have : x = rest.fmod base := by simpa using z
            subst this
            rw [fmod_pos hb]
            exact ⟨Int.emod_nonneg _ (by omega), Int.emod_lt_of_pos _ hb⟩
      · refine ⟨_, [some (T.p (.int cell)), some (T.p (.int many)), some (T.p (.int base)), some (.ml ((xs ++ [(st'.fdiv 4096).fmod base]).map fun x => T.p (.int x))), some (.p (.int rest)), some (.p (.int st')), some (.p (.int i))], rfl, .inl ?_, xs ++ [(st'.fdiv 4096).fmod base], _, _, _, rfl, ?_, ?_, hst'⟩
        · simp [hst, h48, hi2, hi3, hr, hb0, h4, LIM, hfl, fmod_pos, hn]
        · simp; omega
        · intro x hx'
          rcases List.mem_append.mp hx' with z | z
          · exact hx x z
          · have : x = (st'.fdiv 4096).fmod base := by simpa using z
            subst this
            rw [fmod_pos hb]
            exact ⟨Int.emod_nonneg _ (by omega), Int.emod_lt_of_pos _ hb⟩
    · have hi3 : ¬ 2 < i := by omega
      refine ⟨_, [some (T.p (.int cell)), some (T.p (.int many)), some (T.p (.int base)), some (.ml (xs.map fun x => T.p (.int x))), some (.p (.int rest)), some (.p (.int st')), some (.p (.int i))], rfl, .inl ?_, xs, _, _, _, rfl, ?_, hx, hst'⟩
      · simp [hst, h48, hi2, hi3, fmod_pos, hn]
      · omega
  obtain ⟨e, he, xs, rest, st, lk, hee, hl, hx⟩ := forRun_inv P _ _ 0 h0 hstep
  refine ⟨xs, ?_, ?_, hx.1⟩
  · rw [he, hee]
    simp
  · rw [hl]
    simp [rangeD]
    omega
end B
/-! B2: books. -/
namespace B
open PySem PySem.Spec PyProof.Rows L2 M

abbrev Buy := List Int × List Int
def enI (xs : List Int) : List D := xs.map PyData.int
def enB (b : Buy) : D := .tuple [.tuple (enI b.1), .tuple (enI b.2)]
def enBk (bk : List Buy) : D := .list (bk.map enB)
structure Good (n : Nat) (b : Buy) : Prop where
  lp : b.1.length = n
  la : b.2.length = n
  pr : ∀ p ∈ b.1, 1 ≤ p ∧ p ≤ 1000000
  am : ∀ a ∈ b.2, 0 ≤ a ∧ a ≤ 1000000
  ps : ∃ a ∈ b.2, 0 < a
structure ValidBook (n : Nat) (bk : List Buy) : Prop where
  n1 : 1 ≤ n
  n6 : n ≤ 6
  ne : 1 ≤ bk.length
  all : ∀ b ∈ bk, Good n b

theorem stepS {a b : SM} {env e : En} (h : a env = some (.nx e)) : sCons a b env = b e := by simp [h]
theorem lcRun_of {α : Type} {g : D → En → Option En} {tt : En → Option Bool} {me : EM} {env : En} (en : α → D) (p : α → Bool) (f : α → D) : ∀ (xs : List α), (∀ x ∈ xs, ∃ e, g (en x) env = some e ∧ tt e = some (p x) ∧ (p x = true → me e = some (.p (f x)))) →
    lcRun g tt me env (xs.map en) = some ((xs.filter p).map f)
  | [], _ => rfl
  | x :: r, h => by
    obtain ⟨e, h1, h2, h3⟩ := h x List.mem_cons_self
    have ih := lcRun_of en p f r (fun y hy => h y (List.mem_cons_of_mem _ hy))
    simp only [List.map_cons, lcRun, h1, h2, Option.bind_some]
    cases hp : p x with
    | true => simp [h3 hp, ih, hp]
    | false => simp [ih, hp]
theorem lcRun_map {α : Type} {g : D → En → Option En} {tt : En → Option Bool} {me : EM} {env : En} (en : α → D) (f : α → D) (xs : List α) (h : ∀ x ∈ xs, ∃ e, g (en x) env = some e ∧ tt e = some true ∧ me e = some (.p (f x))) :
    lcRun g tt me env (xs.map en) = some (xs.map f) := by
  have := lcRun_of (g := g) (tt := tt) (me := me) (env := env) en (fun _ => true) f xs (fun x hx => by
    obtain ⟨e, h1, h2, h3⟩ := h x hx
    exact ⟨e, h1, h2, fun _ => h3⟩)
  rw [this, List.filter_eq_self.mpr (fun _ _ => rfl)]
theorem lc_ints {g : D → En → Option En} {tt : En → Option Bool} {me : EM} {env : En} (f : Int → Int) (xs : List Int) (h : ∀ x ∈ xs, ∃ e, g (.int x) env = some e ∧ tt e = some true ∧ me e = some (.p (.int (f x)))) :
    lcRun g tt me env (enI xs) = some (enI (xs.map f)) := by
  have := lcRun_map PyData.int (fun x => .int (f x)) xs h
  unfold enI
  rw [this, List.map_map]
  rfl
theorem cut_to {α : Type} (xs : List α) (k : Int) (h : 0 ≤ k) : cutL xs none (some k) = xs.take k.toNat := by
  unfold cutL HT.sIx
  simp only [if_neg (show ¬ k < 0 by omega)]
  simp
theorem cut_ft {α : Type} (xs : List α) (a b : Int) (h : 0 ≤ a) (h2 : 0 ≤ b) : cutL xs (some a) (some b) = (xs.drop a.toNat).take (b.toNat - a.toNat) := by
  unfold cutL HT.sIx
  simp only [if_neg (show ¬ a < 0 by omega), if_neg (show ¬ b < 0 by omega)]
  by_cases ha : a.toNat ≤ xs.length
  · rw [Nat.min_eq_left ha, List.take_eq_take_iff]
    simp
    omega
  · rw [List.drop_eq_nil_of_le (by omega), List.drop_eq_nil_of_le (by omega)]
    simp
theorem enI_length (xs : List Int) : (enI xs).length = xs.length := by simp [enI]
theorem atI_enI {xs : List Int} {i : Int} (h0 : 0 ≤ i) (h1 : i < xs.length) : atI (enI xs) i = some (.int (xs.getD i.toNat 0)) := by
  rw [atI_lt h0 (by rw [enI_length]; exact h1)]
  unfold enI
  have : i.toNat < xs.length := by omega
  simp [List.getD, this]
theorem getD_mem {xs : List Int} {k : Nat} (h : k < xs.length) : xs.getD k 0 ∈ xs := by
  simp [List.getD, h]
theorem callT_ml {fn : List T → Option T} {ts : List T} {xs : List Int} (hf : ts.all T.frozen = true) (h : fn ts = some (.ml (xs.map fun x => T.p (.int x)))) : callT fn ts = some (.p (.list (enI xs))) := by
  unfold callT
  rw [if_pos hf, h]
  simp only [Option.bind_some, T.snap, snaps_ints, Option.map_some]
  rfl
theorem callT_p {fn : List T → Option T} {ts : List T} {d : D} (hf : ts.all T.frozen = true) (h : fn ts = some (.p d)) : callT fn ts = some (.p d) := by
  unfold callT
  rw [if_pos hf, h]
  simp
theorem c_draws (cell many base : Int) (hm : 0 ≤ many) (hm2 : many ≤ 1000) (hb : 0 < base) (hb2 : base < 2 ^ 60) :
    ∃ xs : List Int, callT Q.law_draws [.p (.int cell), .p (.int many), .p (.int base)] = some (.p (.list (enI xs))) ∧ xs.length = many.toNat ∧ ∀ x ∈ xs, 0 ≤ x ∧ x < base := by
  obtain ⟨xs, h1, h2, h3⟩ := draws cell many base hm hm2 hb hb2
  exact ⟨xs, callT_ml rfl h1, h2, h3⟩
theorem c_cell_at (ns : List Int) (k : Int) (hk : 0 ≤ k) : ∃ c, callT Q.law_cell_at [.sc ns, .p (.int k)] = some (.p (.int c)) := by
  by_cases h : k < (ns.length : Int)
  · refine ⟨ns[k.toNat]'(by omega), callT_p rfl ?_⟩
    unfold Q.law_cell_at runFn startE
    simp [h, atI_lt hk h]
  · refine ⟨0, callT_p rfl ?_⟩
    unfold Q.law_cell_at runFn startE
    simp [h]

theorem best_good (ps ws : List Int) (m : Int) (hp : ps ≠ []) (hl : ps.length ≤ ws.length) (hps : ∀ p ∈ ps, 1 ≤ p ∧ p ≤ 1000000) (hlen : ps.length ≤ 6) :
    ∃ b : Nat, b < ps.length ∧ callT Q.law_best_good [.p (.list (enI ps)), .p (.list (enI ws)), .p (.int m)] = some (.p (.list (enI ((List.range ps.length).map fun k => m * (if k = b then 1 else 0))))) := by
  have hlp : 0 < ps.length := List.length_pos_iff.mpr hp
  let P : Nat → En → Prop := fun i e => ∃ (b : Nat) (o4 o5 : Option T), e = [some (.p (.list (enI ps))), some (.p (.list (enI ws))), some (.p (.int m)), some (.p (.int b)), o4, o5] ∧ b < ps.length
  have hstep : ∀ i d e, (rangeD 0 ps.length)[i]? = some d → P (0 + i) e → ∃ e1 e2, gNm 4 d e = some e1 ∧ (Q.law_best_good_L1 e1 = some (.nx e2) ∨ Q.law_best_good_L1 e1 = some (.ct e2)) ∧ P (0 + i + 1) e2 := by
    rintro i d e hd ⟨b, o4, o5, rfl, hb⟩
    have hi : i < ps.length := by
      have := (List.getElem?_eq_some_iff.mp hd).1
      simpa [rangeD] using this
    have hd' : d = .int i := by
      simp [rangeD, hi] at hd
      exact hd.symm
    subst hd'
    have a1 : atI (enI ws) (i : Int) = some (.int (ws.getD i 0)) := by
      have := atI_enI (xs := ws) (i := (i : Int)) (by omega) (by omega)
      simpa using this
    have a2 : atI (enI ws) (b : Int) = some (.int (ws.getD b 0)) := by
      have := atI_enI (xs := ws) (i := (b : Int)) (by omega) (by omega)
      simpa using this
    have a3 : atI (enI ps) (i : Int) = some (.int (ps.getD i 0)) := by
      have := atI_enI (xs := ps) (i := (i : Int)) (by omega) (by omega)
      simpa using this
    have a4 : atI (enI ps) (b : Int) = some (.int (ps.getD b 0)) := by
      have := atI_enI (xs := ps) (i := (b : Int)) (by omega) (by omega)
      simpa using this
    have m1 : ∀ x : Int, mulOk (1 + x.fmod 9) (ps.getD b 0) = true := fun x => mulOk_l (by rw [fmod_pos (by decide)]; omega)
    have m2 : ∀ x : Int, mulOk (1 + x.fmod 9) (ps.getD i 0) = true := fun x => mulOk_l (by rw [fmod_pos (by decide)]; omega)
    unfold Q.law_best_good_L1
    by_cases hc : (1 + (ws.getD b 0).fmod 9) * ps.getD i 0 < (1 + (ws.getD i 0).fmod 9) * ps.getD b 0
    · exact ⟨_, [some (.p (.list (enI ps))), some (.p (.list (enI ws))), some (.p (.int m)), some (.p (.int (i : Int))), some (.p (.int (i : Int))), some (.p (.int ((1 + (ws.getD i 0).fmod 9) * ps.getD b 0)))], rfl, .inl (by simp [-List.getD_eq_getElem?_getD, a1, a2, a3, a4, m1, m2, hc]), i, _, _, rfl, hi⟩
    · exact ⟨_, [some (.p (.list (enI ps))), some (.p (.list (enI ws))), some (.p (.int m)), some (.p (.int (b : Int))), some (.p (.int (i : Int))), some (.p (.int ((1 + (ws.getD i 0).fmod 9) * ps.getD b 0)))], rfl, .inl (by simp [-List.getD_eq_getElem?_getD, a1, a2, a3, a4, m1, m2, hc]), b, _, _, rfl, hb⟩
  obtain ⟨e, he, b, o4, o5, hee, hb⟩ := forRun_inv P (rangeD 0 ps.length) [some (.p (.list (enI ps))), some (.p (.list (enI ws))), some (.p (.int m)), some (.p (.int 0)), none, none] 0 ⟨0, _, _, rfl, hlp⟩ hstep
  refine ⟨b, hb, callT_p rfl ?_⟩
  unfold Q.law_best_good runFn startE
  have hs : smallI (ps.length : Int) := by unfold smallI; omega
  have hr : ∀ e, lcRun (gNm 4) bYes (mOp mulT (mVar 2) (mCall intT (aCons (mOp eqT (mVar 4) (mVar 3)) (aNil)))) [some (.p (.list (enI ps))), some (.p (.list (enI ws))), some (.p (.int m)), some (.p (.int (b : Int))), none, e] (rangeD 0 ps.length) = some (enI ((List.range ps.length).map fun k => m * (if k = b then 1 else 0))) := by
    intro e
    unfold rangeD
    have hz : ((ps.length : Int) - 0).toNat = ps.length := by omega
    rw [hz, lcRun_map (fun k : Nat => PyData.int (0 + (k : Int))) (fun k => .int (m * (if k = b then 1 else 0))) (List.range ps.length)]
    · unfold enI
      rw [List.map_map]
      rfl
    · intro k hk
      refine ⟨_, rfl, rfl, ?_⟩
      have hm : mulOk m (if k = b then 1 else 0) = true := mulOk_r (by split <;> decide)
      have hkb : ((k : Int) = (b : Int)) ↔ k = b := Int.ofNat_inj
      simp [hkb, hm]
  have hq : ps.length ≤ LIM := by unfold LIM; omega
  simp [enI_length, hs, he, hee, hr, hq]

theorem maxT_ints {xs : List Int} {m : Int} (h : maxI xs = some m) : maxT [.p (.list (enI xs))] = some (.p (.int m)) := by
  unfold enI
  simp [maxT, intsOf_map, h]
theorem maxT_mints {xs : List Int} {m : Int} (h : maxI xs = some m) : maxT [.ml ((enI xs).map T.p)] = some (.p (.int m)) := by
  have : (T.ml ((enI xs).map T.p)).any? = some (enI xs) := by
    simp only [T.any?, T.seq?, pures_map]
  have h2 : intsOf (enI xs) = some xs := intsOf_map xs
  simp only [maxT, this, Option.bind_some, h2, h, Option.map_some]
theorem maxI_some {xs : List Int} (h : xs ≠ []) : ∃ m, maxI xs = some m := by
  cases xs with
  | nil => exact absurd rfl h
  | cons x r => exact ⟨_, rfl⟩
theorem ixN_of {n : Nat} {i : Int} (h0 : 0 ≤ i) (h1 : i < n) : ixN n i = some i.toNat := by
  unfold ixN
  rw [if_pos h0, if_pos h1]
/-- what all amounts of the law's books keep -/
def Am (n : Nat) (xs : List Int) : Prop := xs.length = n ∧ ∀ x ∈ xs, 0 ≤ x

theorem setset {α : Type} (l : List α) (i : Nat) (a : α) (h : l[i]? = some a) : l.set i a = l := by
  apply List.ext_getElem?
  intro j
  by_cases hj : i = j
  · subst hj
    rw [List.getElem?_set_self' , h]
    rfl
  · rw [List.getElem?_set_ne hj]

theorem exS {a b : SM} {env : En} {Post : En → Prop} (Q : En → Prop) (h1 : ∃ e, a env = some (.nx e) ∧ Q e) (h2 : ∀ e, Q e → ∃ e', b e = some (.nx e') ∧ Post e') : ∃ e', sCons a b env = some (.nx e') ∧ Post e' := by
  obtain ⟨e, h3, h4⟩ := h1
  obtain ⟨e', h5, h6⟩ := h2 e h4
  exact ⟨e', by rw [stepS h3]; exact h5, h6⟩
theorem exE {a b : SM} {env : En} {Post : En → Prop} (e : En) (h1 : a env = some (.nx e)) (h2 : ∃ e', b e = some (.nx e') ∧ Post e') : ∃ e', sCons a b env = some (.nx e') ∧ Post e' := by
  obtain ⟨e', h5, h6⟩ := h2
  exact ⟨e', by rw [stepS h1]; exact h5, h6⟩
theorem atI_ex {xs : List Int} {i : Int} (h0 : 0 ≤ i) (h1 : i < xs.length) : ∃ x ∈ xs, atI (enI xs) i = some (.int x) := ⟨_, getD_mem (by omega), atI_enI h0 h1⟩
theorem getE_set_ne {α : Type} {l : List α} {i j : Nat} {a : α} (h : i ≠ j) : (l.set i a)[j]? = l[j]? := List.getElem?_set_ne h

def BkInv (ns heads : List Int) (at' far way : Int) (goods : Nat) (i : Nat) (e : En) : Prop := e.length = 18 ∧ e[0]? = some (some (.sc ns)) ∧ e[1]? = some (some (.p (.int at'))) ∧ e[3]? = some (some (.p (.list (enI heads)))) ∧ e[4]? = some (some (.p (.int goods))) ∧ e[6]? = some (some (.p (.int far))) ∧ e[7]? = some (some (.p (.int way))) ∧
  ∃ bk : List Buy, e[8]? = some (some (.ml (bk.map fun b => T.p (enB b)))) ∧ bk.length = i ∧ ∀ b ∈ bk, Good goods b

theorem canLay_ints : ∀ xs : List Int, PyData.canLayAll0 (enI xs) = true
  | [] => by simp [enI, PyData.canLayAll0]
  | x :: r => by
    have := canLay_ints r
    unfold enI at *
    simp [PyData.canLayAll0, PyData.canLay0, this]
theorem depth_enI (xs : List Int) : PyData.depthAll (enI xs) = 0 := depth_ints xs
theorem depth_enB (b : Buy) : PyData.depth (enB b) = 2 := by
  simp [enB, PyData.depth, PyData.depthAll, depth_enI]
theorem lay_bk : ∀ bk : List Buy, PyData.canLayAll0 (bk.map enB) = true ∧ PyData.depthAll (bk.map enB) ≤ 2
  | [] => by simp [PyData.canLayAll0, PyData.depthAll]
  | b :: r => by
    obtain ⟨h1, h2⟩ := lay_bk r
    have h3 := depth_enB b
    refine ⟨?_, ?_⟩
    · simp [PyData.canLayAll0, h1, enB, PyData.canLay0, canLay_ints]
    · simp only [List.map_cons, PyData.depthAll, h3]
      omega
theorem shaped_bk (bk : List Buy) : SeqAt.shaped (.list (bk.map enB)) = true := by
  obtain ⟨h1, h2⟩ := lay_bk bk
  simp [SeqAt.shaped, PyData.canLay0, h1, PyData.depth]
  omega
theorem book_turn (ns heads : List Int) (at' far way : Int) (goods : Nat) (h1 : 0 ≤ at') (hh : heads.length = 12) (hh2 : ∀ x ∈ heads, 0 ≤ x ∧ x < 1000000) (hg1 : 1 ≤ goods) (hg2 : goods ≤ 6) (hf : 3 ≤ far) (hf2 : far ≤ 1000000)
    (e : En) (i : Nat) (hi : i < 1000) (hinv : BkInv ns heads at' far way goods i e) (e9 : e[9]? = some (some (.p (.int i)))) :
    ∃ e', Q.law_a_book_L1 e = some (.nx e') ∧ BkInv ns heads at' far way goods (i + 1) e' := by
  obtain ⟨hl, e0, e1, e3, e4, e6, e7, bk, e8, hbl, hbk⟩ := hinv
  obtain ⟨c, hc⟩ := c_cell_at ns (at' + 1) (by omega)
  obtain ⟨h6, hh6m, hh6⟩ := atI_ex (xs := heads) (i := 6) (by decide) (by omega)
  have hh6r := hh2 h6 hh6m
  obtain ⟨picks, hp, hpl, hpx⟩ := c_draws (c + i * (h6 + 1)) 14 1000000000 (by decide) (by decide) (by decide) (by decide)
  have hpl : picks.length = 14 := hpl
  have hm1 : mulOk (i : Int) (h6 + 1) = true := mulOk_l (by omega)
  unfold Q.law_a_book_L1
  -- picks
  refine exE (e.set 10 (some (.p (.list (enI picks))))) (by simp [e0, e1, e3, e9, hc, hh6, hm1, hp]) ?_
  -- prices
  have hf0 : far ≠ 0 := by omega
  have hf1 : far + 1 ≠ 0 := by omega
  have hr1 : ∀ E : En, E.length = 18 → E[6]? = some (some (.p (.int far))) → lcRun (gNm 15) bYes (mOp addT (mC (.int 1)) (mOp modT (mVar 15) (mVar 6))) (E.set 15 none) (enI (picks.take goods)) = some (enI ((picks.take goods).map fun x => 1 + x % far)) := by
    intro E hE h6
    refine lc_ints _ _ fun x hx => ⟨_, rfl, rfl, ?_⟩
    simp [-getElem?_pos, h6, hE, hf0, fmod_pos (show 0 < far by omega)]
  have hc1 : cutL (enI picks) none (some (goods : Int)) = enI (picks.take goods) := by
    rw [cut_to _ _ (by omega)]; simp [enI, List.map_take]
  have hc2 : cutL (enI picks) (some 6) (some (6 + (goods : Int))) = enI ((picks.drop 6).take goods) := by
    rw [cut_ft _ _ _ (by omega) (by omega)]
    rw [show (6 + (goods : Int)).toNat - (6 : Int).toNat = goods by omega]
    simp [enI, List.map_take, List.map_drop]
  have hgl : goods ≤ LIM := by unfold LIM; omega
  have hmin1 : min goods 14 = goods := by omega
  have hmin2 : min goods 8 = goods := by omega
  obtain ⟨prices, hprd⟩ : ∃ x, x = (picks.take goods).map fun x => 1 + x % far := ⟨_, rfl⟩
  obtain ⟨sm, hsmd⟩ : ∃ x, x = (picks.drop 6).take goods := ⟨_, rfl⟩
  rw [← hsmd] at hc2
  rw [← hprd] at hr1
  have hprl : prices.length = goods := by simp [hprd, hpl, hmin1]
  have hpr : ∀ p ∈ prices, 1 ≤ p ∧ p ≤ far := by
    intro p hp'
    rw [hprd] at hp'
    obtain ⟨x, _, rfl⟩ := List.mem_map.mp hp'
    have := Int.emod_nonneg x hf0
    have := Int.emod_lt_of_pos x (show 0 < far by omega)
    omega
  have hsml : sm.length = goods := by simp [hsmd, hpl, hmin2]
  have hsm : ∀ x ∈ sm, 0 ≤ x ∧ x < 1000000000 := fun x hx => hpx x (List.mem_of_mem_drop (List.mem_of_mem_take (hsmd ▸ hx)))
  refine exE ((e.set 10 (some (.p (.list (enI picks))))).set 11 (some (.p (.list (enI prices))))) (by
    have := hr1 (e.set 10 (some (.p (.list (enI picks))))) (by simp [hl]) (by simp [e6])
    simp [-getElem?_pos, hl, e4, hc1, this, enI_length, hprl, hgl]) ?_
  refine exE (((e.set 10 (some (.p (.list (enI picks))))).set 11 (some (.p (.list (enI prices))))).set 12 (some (.p (.list (enI sm))))) (by
    simp [-getElem?_pos, hl, e4, hc2]) ?_
  generalize hB : ((e.set 10 (some (.p (.list (enI picks))))).set 11 (some (.p (.list (enI prices))))).set 12 (some (.p (.list (enI sm)))) = B
  have bl : B.length = 18 := by rw [← hB]; simp [hl]
  have b0 : B[0]? = some (some (.sc ns)) := by rw [← hB]; simp [e0]
  have b1 : B[1]? = some (some (.p (.int at'))) := by rw [← hB]; simp [e1]
  have b3 : B[3]? = some (some (.p (.list (enI heads)))) := by rw [← hB]; simp [e3]
  have b4 : B[4]? = some (some (.p (.int goods))) := by rw [← hB]; simp [e4]
  have b6 : B[6]? = some (some (.p (.int far))) := by rw [← hB]; simp [e6]
  have b7 : B[7]? = some (some (.p (.int way))) := by rw [← hB]; simp [e7]
  have b8 : B[8]? = some (some (.ml (bk.map fun b => T.p (enB b)))) := by rw [← hB]; simp [e8]
  have b10 : B[10]? = some (some (.p (.list (enI picks)))) := by rw [← hB]; simp [-getElem?_pos, hl]
  have b11 : B[11]? = some (some (.p (.list (enI prices)))) := by rw [← hB]; simp [-getElem?_pos, hl]
  have b12 : B[12]? = some (some (.p (.list (enI sm)))) := by rw [← hB]; simp [-getElem?_pos, hl]
  clear hB
  have hlc : ∀ xs : List Int, xs.length = goods → (enI xs).length ≤ LIM := fun xs h => by rw [enI_length, h]; exact hgl
  -- amounts by chance
  refine exS (fun E => ∃ am, E = B.set 13 (some (.p (.list (enI am)))) ∧ Am goods am) ⟨_, by
    have : lcRun (gNm 15) bYes (mOp mulT (mOp modT (mVar 15) (mOp addT (mVar 6) (mC (.int 1)))) (mCall intT (aCons (mOp gtT (mOp modT (mVar 15) (mC (.int 5))) (mC (.int 0))) (aNil)))) (B.set 15 none) (enI sm) = some (enI (sm.map fun x => x % (far + 1) * (if 0 < x % 5 then 1 else 0))) := by
      refine lc_ints _ _ fun x hx => ⟨_, rfl, rfl, ?_⟩
      have hm : mulOk (x % (far + 1)) (if 0 < x % 5 then 1 else 0) = true := mulOk_r (by split <;> decide)
      simp [-getElem?_pos, b6, bl, hf1, fmod_pos (show 0 < far + 1 by omega), fmod_pos (show (0 : Int) < 5 by decide), hm]
    simp [-getElem?_pos, b12, bl, this, hlc (sm.map fun x => x % (far + 1) * (if 0 < x % 5 then 1 else 0)) (by simp [hsml])] <;> rfl, _, rfl, by simp [hsml], ?_⟩ ?_
  · intro x hx
    obtain ⟨y, _, rfl⟩ := List.mem_map.mp hx
    have := Int.emod_nonneg y hf1
    split <;> omega
  rintro _ ⟨am, rfl, ha⟩
  -- the best good
  obtain ⟨p12, hp12m, hp12⟩ := atI_ex (xs := picks) (i := 12) (by decide) (by omega)
  obtain ⟨p13, hp13m, hp13⟩ := atI_ex (xs := picks) (i := 13) (by decide) (by omega)
  have hp12r := hpx p12 hp12m
  have hp13r := hpx p13 hp13m
  refine exS (fun E => ∃ am, E = B.set 13 (some (.p (.list (enI am)))) ∧ Am goods am) ?_ ?_
  · by_cases hw : way = 1
    · have hc3 : cutL (enI heads) (some 6) (some (6 + (goods : Int))) = enI ((heads.drop 6).take goods) := by
        rw [cut_ft _ _ _ (by omega) (by omega)]
        rw [show (6 + (goods : Int)).toNat - (6 : Int).toNat = goods by omega]
        simp [enI, List.map_take, List.map_drop]
      obtain ⟨b, hb, hbg⟩ := best_good prices ((heads.drop 6).take goods) (1 + p12 % far) (fun z => by rw [z] at hprl; simp at hprl; omega) (by rw [hprl]; simp [hh]; omega) (fun p hp' => by have := hpr p hp'; omega) (by omega)
      refine ⟨_, by simp [-getElem?_pos, bl, b7, hw, b11, b3, b4, hc3, b10, hp12, b6, hf0, fmod_pos (show 0 < far by omega), hbg] <;> rfl, _, rfl, by simp [hprl], ?_⟩
      intro x hx
      obtain ⟨k, _, rfl⟩ := List.mem_map.mp hx
      have := Int.emod_nonneg p12 hf0
      split <;> omega
    · exact ⟨_, by simp [-getElem?_pos, bl, b7, hw] <;> rfl, am, rfl, ha⟩
  rintro _ ⟨am, rfl, ha⟩
  -- one that sates
  refine exS (fun E => ∃ am, E = B.set 13 (some (.p (.list (enI am)))) ∧ Am goods am) ?_ ?_
  · by_cases hw : way = 2
    · have : lcRun (gNm 16) bYes (mOp subT (mOp addT (mVar 6) (mC (.int 1))) (mVar 16)) ((B.set 13 (some (.p (.list (enI am))))).set 16 none) (enI prices) = some (enI (prices.map fun p => far + 1 - p)) := by
        refine lc_ints _ _ fun x hx => ⟨_, rfl, rfl, ?_⟩
        simp [-getElem?_pos, b6, bl]
      refine ⟨_, by simp [-getElem?_pos, bl, b7, hw, b11, this, hlc (prices.map fun p => far + 1 - p) (by simp [hprl])] <;> rfl, _, rfl, by simp [hprl], ?_⟩
      intro x hx
      obtain ⟨k, hk, rfl⟩ := List.mem_map.mp hx
      have := hpr k hk
      omega
    · exact ⟨_, by simp [-getElem?_pos, bl, b7, hw] <;> rfl, am, rfl, ha⟩
  rintro _ ⟨am, rfl, ha⟩
  -- otherwise
  refine exS (fun E => ∃ am, E = B.set 13 (some (.p (.list (enI am)))) ∧ Am goods am) ?_ ?_
  · by_cases hw : p13 % 9 = 0
    · have : lcRun (gNm 15) bYes (mOp modT (mVar 15) (mVar 6)) ((B.set 13 (some (.p (.list (enI am))))).set 15 none) (enI sm) = some (enI (sm.map fun p => p % far)) := by
        refine lc_ints _ _ fun x hx => ⟨_, rfl, rfl, ?_⟩
        simp [-getElem?_pos, b6, bl, hf0, fmod_pos (show 0 < far by omega)]
      refine ⟨_, by simp [-getElem?_pos, bl, b10, hp13, fmod_pos (show (0 : Int) < 9 by decide), hw, b4, hc2, this, hlc (sm.map fun p => p % far) (by simp [hsml])] <;> rfl, _, rfl, by simp [hsml], ?_⟩
      intro x hx
      obtain ⟨k, hk, rfl⟩ := List.mem_map.mp hx
      exact Int.emod_nonneg k hf0
    · exact ⟨_, by simp [-getElem?_pos, bl, b10, hp13, fmod_pos (show (0 : Int) < 9 by decide), hw] <;> rfl, am, rfl, ha⟩
  rintro _ ⟨am, rfl, ha⟩
  -- no more than a million
  have hcl : ∀ x ∈ am.map (fun x => min 1000000 x), 0 ≤ x ∧ x ≤ 1000000 := by
    intro x hx
    obtain ⟨k, hk, rfl⟩ := List.mem_map.mp hx
    have := ha.2 k hk
    omega
  refine exE (B.set 13 (some (.ml ((enI (am.map fun x => min 1000000 x)).map T.p)))) (by
    have : lcRun (gNm 17) bYes (mCall minT (aCons (mOp powT (mC (.int 10)) (mC (.int 6))) (aCons (mVar 17) (aNil)))) ((B.set 13 (some (.p (.list (enI am))))).set 17 none) (enI am) = some (enI (am.map fun x => min 1000000 x)) := by
      refine lc_ints _ _ fun x hx => ⟨_, rfl, rfl, ?_⟩
      simp [-getElem?_pos, bl]
    simp [-getElem?_pos, bl, this, hlc (am.map fun x => min 1000000 x) (by simp [ha.1])]) ?_
  generalize hcle : (am.map fun x => min 1000000 x) = cl at hcl
  have hcll : cl.length = goods := by rw [← hcle]; simp [ha.1]
  have hcne : cl ≠ [] := fun z => by rw [z] at hcll; simp at hcll; omega
  obtain ⟨mx, hmx⟩ := maxI_some hcne
  obtain ⟨hmx1, hmx2⟩ := maxI_spec hmx
  refine exS (fun E => ∃ am, E = B.set 13 (some (.ml ((enI am).map T.p))) ∧ am.length = goods ∧ (∀ x ∈ am, 0 ≤ x ∧ x ≤ 1000000) ∧ ∃ a ∈ am, 0 < a) ?_ ?_
  · by_cases hw : mx = 0
    · have hg0 : (goods : Int) ≠ 0 := by omega
      have hg0' : goods ≠ 0 := by omega
      have hk0 := Int.emod_nonneg p12 hg0
      have hk1 := Int.emod_lt_of_pos p12 (show 0 < (goods : Int) by omega)
      have hix : ixN ((enI cl).map T.p).length (p12 % goods) = some (p12 % (goods : Int)).toNat := ixN_of hk0 (by rw [List.length_map, enI_length, hcll]; exact hk1)
      refine ⟨_, by simp [-getElem?_pos, -List.length_map, bl, maxT_mints hmx, hw, b10, hp12, b4, hg0', fmod_pos (show 0 < (goods : Int) by omega), setN, hix] <;> rfl, cl.set (p12 % (goods : Int)).toNat 1, ?_, by simp [hcll], ?_, ?_⟩
      · simp [enI, List.map_set]
      · intro x hx
        rcases List.mem_or_eq_of_mem_set hx with z | z
        · exact hcl x z
        · subst z; decide
      · exact ⟨1, List.mem_set (by rw [hcll]; omega) 1, by decide⟩
    · refine ⟨_, by simp [-getElem?_pos, bl, maxT_mints hmx, hw] <;> rfl, cl, rfl, hcll, hcl, mx, hmx1, ?_⟩
      have := hcl mx hmx1
      omega
  rintro _ ⟨fm, rfl, hfl, hfr, hfp⟩
  -- frozen; the buying
  have hfz : ∀ m : SM, sFrz 13 m (B.set 13 (some (.ml ((enI fm).map T.p)))) = m (B.set 13 (some (.p (.list (enI fm))))) := by
    intro m
    have : (T.ml ((enI fm).map T.p)).snap = some (.list (enI fm)) := by simp [T.snap, snaps_p]
    simp [-getElem?_pos, bl, this]
  rw [hfz]
  have h2L : 2 ≤ LIM := by decide
  have hL0 : 0 ≤ LIM := Nat.zero_le _
  refine exE ((B.set 13 (some (.p (.list (enI fm))))).set 14 (some (.p (enB (prices, fm))))) (by
    simp [-getElem?_pos, bl, b11, h2L, enB]) ?_
  generalize hC : B.set 13 (some (.p (.list (enI fm)))) = C
  have cl' : C.length = 18 := by rw [← hC]; simp [bl]
  have c8 : C[8]? = some (some (.ml (bk.map fun b => T.p (enB b)))) := by rw [← hC]; simp [b8]
  have c10 : C[10]? = some (some (.p (.list (enI picks)))) := by rw [← hC]; simp [b10]
  have hgb : Good goods (prices, fm) := ⟨hprl, hfl, fun p hp' => by have := hpr p hp'; omega, hfr, hfp⟩
  have hbs : (T.ml (bk.map fun b => T.p (enB b))).snap = some (.list (bk.map enB)) := by
    have := snaps_p (bk.map enB)
    rw [List.map_map] at this
    simp only [T.snap]
    rw [show (bk.map fun b => T.p (enB b)) = bk.map (T.p ∘ enB) from rfl, this]
    rfl
  refine exS (fun E => ∃ b, E = C.set 14 (some (.p (enB b))) ∧ Good goods b) ?_ ?_
  · have hd9 : divOk 9 = true := by decide
    have hd63 : divOk 63 = true := by decide
    have hne : neT (.ml (bk.map fun b => T.p (enB b))) (.p (.list [])) = some (.p (.bool (!bk.isEmpty))) := by
      have h1 : SeqAt.shaped (.list (bk.map enB)) = true := shaped_bk bk
      have h2 : SeqAt.shaped (.list []) = true := by simp [SeqAt.shaped, PyData.canLay0, PyData.canLayAll0, PyData.depth, PyData.depthAll]
      simp only [M.neT, hbs, ev_snap, Option.bind_some, h1, h2, and_self, if_true]
      cases bk <;> simp [PyData.eqv, PyData.eqvAll]
    by_cases hw : bk = []
    · exact ⟨_, by simp [-getElem?_pos, cl', c8, hne, hw, hL0] <;> rfl, _, rfl, hgb⟩
    · by_cases hw2 : p13 / 9 % 7 = 0
      · have hb0 : (bk.length : Int) ≠ 0 := by have := List.length_pos_iff.mpr hw; omega
        have hb0' : bk.length ≠ 0 := by omega
        have hbp : (0 : Int) < (bk.length : Int) := by have := List.length_pos_iff.mpr hw; omega
        have hk0 := Int.emod_nonneg (p13 / 63) hb0
        have hk1 := Int.emod_lt_of_pos (p13 / 63) hbp
        obtain ⟨j, hj⟩ : ∃ j : Nat, (p13 / 63) % (bk.length : Int) = j := ⟨((p13 / 63) % (bk.length : Int)).toNat, by omega⟩
        have hjl : j < bk.length := by omega
        have hat : atI (bk.map fun b => T.p (enB b)) (j : Int) = some (T.p (enB bk[j])) := by
          rw [atI_lt (by omega) (by simp; omega)]; simp
        have hat1 : atI [PyData.tuple (enI bk[j].1), PyData.tuple (enI bk[j].2)] 1 = some (.tuple (enI bk[j].2)) := rfl
        have hat0 : atI [PyData.tuple (enI prices), PyData.tuple (enI fm)] 0 = some (.tuple (enI prices)) := rfl
        have hgj := hbk bk[j] (List.getElem_mem hjl)
        refine ⟨_, by
          simp [-getElem?_pos, cl', c8, hne, hw, hL0, c10, hp13, hd9, hd63, fdiv_pos (show (0 : Int) < 9 by decide), fdiv_pos (show (0 : Int) < 63 by decide), fmod_pos (show (0 : Int) < 7 by decide), hw2, hb0, fmod_pos hbp, hj, hat]
          simp [enB, hat0, hat1, h2L] <;> rfl, (prices, bk[j].2), rfl, ⟨hprl, hgj.la, hgb.pr, hgj.am, hgj.ps⟩⟩
      · exact ⟨_, by simp [-getElem?_pos, cl', c8, hne, hw, hL0, c10, hp13, hd9, fdiv_pos (show (0 : Int) < 9 by decide), fmod_pos (show (0 : Int) < 7 by decide), hw2] <;> rfl, _, rfl, hgb⟩
  rintro _ ⟨b, rfl, hgb'⟩
  have hbl2 : bk.length < LIM := by unfold LIM; omega
  refine ⟨_, by simp [-getElem?_pos, cl', c8, hbl2] <;> rfl, ?_⟩
  refine ⟨by simp [cl'], ?_, ?_, ?_, ?_, ?_, ?_, bk ++ [b], ?_, by simp [hbl], ?_⟩
  · rw [← hC]; simp [b0]
  · rw [← hC]; simp [b1]
  · rw [← hC]; simp [b3]
  · rw [← hC]; simp [b4]
  · rw [← hC]; simp [b6]
  · rw [← hC]; simp [b7]
  · simp [-getElem?_pos, cl']
  · intro x hx
    rcases List.mem_append.mp hx with z | z
    · exact hbk x z
    · have : x = b := by simpa using z
      subst this; exact hgb'
end B
/-! B3: the law's book. -/
namespace B
open PySem PySem.Spec PyProof.Rows L2 M

theorem snap_bk (bk : List Buy) : (T.ml (bk.map fun b => T.p (enB b))).snap = some (enBk bk) := by
  have := snaps_p (bk.map enB)
  rw [List.map_map] at this
  simp only [T.snap]
  rw [show (bk.map fun b => T.p (enB b)) = bk.map (T.p ∘ enB) from rfl, this]
  rfl

theorem callT_snap {fn : List T → Option T} {ts : List T} {t : T} {d : D} (hf : ts.all T.frozen = true) (h : fn ts = some t) (hs : t.snap = some d) : callT fn ts = some (.p d) := by
  unfold callT
  rw [if_pos hf, h]
  simp [hs]
theorem a_book (ns : List Int) (at' most : Int) (h0 : 0 ≤ at') (hm : 1 ≤ most) (hm2 : most ≤ 100) :
    ∃ (n : Nat) (bk : List Buy), callT Q.law_a_book [.sc ns, .p (.int at'), .p (.int most)] = some (.p (enBk bk)) ∧ ValidBook n bk ∧ (bk.length : Int) ≤ most := by
  obtain ⟨c, hc⟩ := c_cell_at ns at' h0
  obtain ⟨heads, hp, hhl, hhx⟩ := c_draws c 12 1000000 (by decide) (by decide) (by decide) (by decide)
  have hhl : heads.length = 12 := hhl
  obtain ⟨h0', m0, q0⟩ := atI_ex (xs := heads) (i := 0) (by decide) (by omega)
  obtain ⟨h1, m1, q1⟩ := atI_ex (xs := heads) (i := 1) (by decide) (by omega)
  obtain ⟨h2, m2, q2⟩ := atI_ex (xs := heads) (i := 2) (by decide) (by omega)
  obtain ⟨h3, m3, q3⟩ := atI_ex (xs := heads) (i := 3) (by decide) (by omega)
  obtain ⟨h4, m4, q4⟩ := atI_ex (xs := heads) (i := 4) (by decide) (by omega)
  obtain ⟨h5, m5, q5⟩ := atI_ex (xs := heads) (i := 5) (by decide) (by omega)
  have h3L : 3 ≤ LIM := by decide
  have h2L : 2 ≤ LIM := by decide
  have h4L : 4 ≤ LIM := by decide
  have hL0 : 0 ≤ LIM := Nat.zero_le _
  have f6 : ∀ x : Int, x.fmod 6 = x % 6 := fun x => fmod_pos (by decide)
  have f2 : ∀ x : Int, x.fmod 2 = x % 2 := fun x => fmod_pos (by decide)
  have f3 : ∀ x : Int, x.fmod 3 = x % 3 := fun x => fmod_pos (by decide)
  have f4 : ∀ x : Int, x.fmod 4 = x % 4 := fun x => fmod_pos (by decide)
  have f5 : ∀ x : Int, x.fmod 5 = x % 5 := fun x => fmod_pos (by decide)
  have g2 : ∀ x : Int, x.fdiv 2 = x / 2 := fun x => fdiv_pos (by decide)
  have fm : ∀ x : Int, x.fmod most = x % most := fun x => fmod_pos (by omega)
  have hmn : min most 4 ≠ 0 := by omega
  have fmn : ∀ x : Int, x.fmod (min most 4) = x % (min most 4) := fun x => fmod_pos (by omega)
  have hm0 : most ≠ 0 := by omega
  have d2 : divOk 2 = true := by decide
  obtain ⟨g, hg, hg1, hg2⟩ : ∃ g : Nat, atI [PyData.int (1 + h0' % 6), .int 2, .int (2 + h0' % 2)] (h1 % 3) = some (.int g) ∧ 1 ≤ g ∧ g ≤ 6 := by
    have : h1 % 3 = 0 ∨ h1 % 3 = 1 ∨ h1 % 3 = 2 := by omega
    rcases this with z | z | z <;> rw [z]
    · exact ⟨(1 + h0' % 6).toNat, by simp [atI, ixN]; omega, by omega, by omega⟩
    · exact ⟨2, by simp [atI, ixN], by omega, by omega⟩
    · exact ⟨(2 + h0' % 2).toNat, by simp [atI, ixN]; omega, by omega, by omega⟩
  obtain ⟨many, hmany, hy1, hy2⟩ : ∃ many : Nat, atI [PyData.int (1 + h2 % most), .int (1 + h2 % min most 4)] (h3 % 3 / 2) = some (.int many) ∧ 1 ≤ many ∧ (many : Int) ≤ most := by
    have e1 := Int.emod_nonneg h2 hm0
    have e2 := Int.emod_lt_of_pos h2 (show 0 < most by omega)
    have e3 := Int.emod_nonneg h2 hmn
    have e4 := Int.emod_lt_of_pos h2 (show 0 < min most 4 by omega)
    have : h3 % 3 / 2 = 0 ∨ h3 % 3 / 2 = 1 := by omega
    rcases this with z | z <;> rw [z]
    · exact ⟨(1 + h2 % most).toNat, by simp [atI, ixN]; omega, by omega, by omega⟩
    · exact ⟨(1 + h2 % min most 4).toNat, by simp [atI, ixN]; omega, by omega, by omega⟩
  obtain ⟨far, hfar, hf1, hf2⟩ : ∃ far : Int, atI [PyData.int 3, .int 9, .int 60, .int 1000000] (h4 % 4) = some (.int far) ∧ 3 ≤ far ∧ far ≤ 1000000 := by
    have : h4 % 4 = 0 ∨ h4 % 4 = 1 ∨ h4 % 4 = 2 ∨ h4 % 4 = 3 := by omega
    rcases this with z | z | z | z <;> rw [z]
    · exact ⟨3, rfl, by omega, by omega⟩
    · exact ⟨9, rfl, by omega, by omega⟩
    · exact ⟨60, rfl, by omega, by omega⟩
    · exact ⟨1000000, rfl, by omega, by omega⟩
  have hs : smallI (many : Int) := by unfold smallI; omega
  let env0 : En := [some (.sc ns), some (.p (.int at')), some (.p (.int most)), some (.p (.list (enI heads))), some (.p (.int g)), some (.p (.int many)), some (.p (.int far)), some (.p (.int (h5 % 5))), some (.ml []), none, none, none, none, none, none, none, none, none]
  obtain ⟨e, he, hinv⟩ := forRun_inv (g := gNm 9) (mb := Q.law_a_book_L1) (BkInv ns heads at' far (h5 % 5) g) (rangeD 0 many) env0 0
    ⟨rfl, rfl, rfl, rfl, rfl, rfl, rfl, [], rfl, rfl, fun _ z => nomatch z⟩ (by
      intro i d e hd hP
      have hi : i < many := by
        have := (List.getElem?_eq_some_iff.mp hd).1
        simpa [rangeD] using this
      have hd' : d = .int i := by
        simp [rangeD, hi] at hd
        exact hd.symm
      subst hd'
      obtain ⟨hl, e0, e1, e3, e4, e6, e7, bk, e8, hbl, hbk⟩ := hP
      rw [Nat.zero_add] at hbl ⊢
      have hinv : BkInv ns heads at' far (h5 % 5) g i (e.set 9 (some (.p (.int i)))) := ⟨by simp [hl], by simp [e0], by simp [e1], by simp [e3], by simp [e4], by simp [e6], by simp [e7], bk, by simp [e8], hbl, hbk⟩
      obtain ⟨e', he', hinv'⟩ := book_turn ns heads at' far (h5 % 5) g h0 hhl hhx hg1 hg2 hf1 hf2 (e.set 9 (some (.p (.int i)))) i (by omega) hinv (by simp [-getElem?_pos, hl])
      exact ⟨_, e', rfl, .inl he', hinv'⟩)
  obtain ⟨hl, _, _, _, _, _, _, bk, e8, hbl, hbk⟩ := hinv
  have hbl : bk.length = many := by simpa [rangeD] using hbl
  refine ⟨g, bk, ?_, ⟨hg1, hg2, by omega, hbk⟩, by omega⟩
  have key : Q.law_a_book [.sc ns, .p (.int at'), .p (.int most)] = some (.ml (bk.map fun b => T.p (enB b))) := by
    unfold Q.law_a_book runFn startE
    simp [hc, hp, q0, q1, q2, q3, q4, q5, f6, f2, f3, f4, f5, g2, fm, fmn, hm0, hmn, d2, h3L, h2L, h4L, hL0, hg, hmany, hfar, hs]
    have he2 : forRun (gNm 9) Q.law_a_book_L1 (rangeD 0 many) [some (.sc ns), some (.p (.int at')), some (.p (.int most)), some (.p (.list (enI heads))), some (.p (.int g)), some (.p (.int many)), some (.p (.int far)), some (.p (.int (h5 % 5))), some (.ml []), none, none, none, none, none, none, none, none, none] = some (.nx e) := he
    rw [he2]
    simp [-getElem?_pos, e8]
  exact callT_snap rfl key (snap_bk bk)
end B
/-! B4: is_buying, is_book. -/
namespace B
open PySem PySem.Spec PyProof.Rows L2 M

def okPrice (p : Int) : Bool := decide (1 ≤ p ∧ p ≤ 1000000)
def okAmount (a : Int) : Bool := decide (0 ≤ a ∧ a ≤ 1000000)
def isBuying (b : Buy) : Bool := decide (1 ≤ b.1.length ∧ b.1.length ≤ 6) && decide (b.1.length = b.2.length) && b.1.all okPrice && b.2.all okAmount && b.2.any (fun a => decide (0 < a))
def isBook (bk : List Buy) : Bool := decide (1 ≤ bk.length ∧ bk.length ≤ 12) && bk.all isBuying && bk.all fun b => decide (b.1.length = (bk.headD ([], [])).1.length)
def enBl (xs : List Bool) : List D := xs.map PyData.bool
theorem lc_bools {α : Type} {g : D → En → Option En} {tt : En → Option Bool} {me : EM} {env : En} (en : α → D) (f : α → Bool) (xs : List α) (h : ∀ x ∈ xs, ∃ e, g (en x) env = some e ∧ tt e = some true ∧ me e = some (.p (.bool (f x)))) :
    lcRun g tt me env (xs.map en) = some (enBl (xs.map f)) := by
  have := lcRun_map en (fun x => .bool (f x)) xs h
  unfold enBl
  rw [this, List.map_map]
  rfl
theorem allT_b (xs : List Bool) : allT [.p (.list (enBl xs))] = some (.p (.bool (xs.all id))) := by
  unfold enBl
  simp [allT, boolsOf_map]
theorem anyT_b (xs : List Bool) : anyT [.p (.list (enBl xs))] = some (.p (.bool (xs.any id))) := by
  unfold enBl
  simp [anyT, boolsOf_map]
theorem maxT_t {xs : List Int} {m : Int} (h : maxI xs = some m) : maxT [.p (.tuple (enI xs))] = some (.p (.int m)) := by
  unfold enI
  simp [maxT, intsOf_map, h]
theorem minT_t {xs : List Int} {m : Int} (h : minI xs = some m) : minT [.p (.tuple (enI xs))] = some (.p (.int m)) := by
  unfold enI
  simp [minT, intsOf_map, h]
theorem minI_some {xs : List Int} (h : xs ≠ []) : ∃ m, minI xs = some m := by
  cases xs with
  | nil => exact absurd rfl h
  | cons x r => exact ⟨_, rfl⟩
theorem max_pos {xs : List Int} {m : Int} (h : maxI xs = some m) : decide (0 < m) = xs.any (fun a => decide (0 < a)) := by
  obtain ⟨h1, h2⟩ := maxI_spec h
  rw [Bool.eq_iff_iff]
  simp only [decide_eq_true_eq, List.any_eq_true]
  constructor
  · intro z; exact ⟨m, h1, z⟩
  · rintro ⟨x, hx, z⟩
    have := h2 x hx
    omega

theorem is_buying (b : Buy) (hb : b.1.length ≤ 1000) (hb2 : b.2.length ≤ 1000) : callT Q.is_buying [.p (enB b)] = some (.p (.bool (isBuying b))) := by
  obtain ⟨ps, as⟩ := b
  simp only at hb hb2
  refine callT_p rfl ?_
  unfold Q.is_buying runFn startE
  have h1 : ∀ E : En, E.length = 5 → lcRun (gNm 3) bYes (mChain leT leT (mC (.int 1)) (mVar 3) (mC (.int 1000000))) (E.set 3 none) (enI ps) = some (enBl (ps.map okPrice)) := by
    intro E hE
    refine lc_bools PyData.int okPrice ps fun x hx => ⟨_, rfl, rfl, ?_⟩
    simp [-getElem?_pos, hE, okPrice]
    by_cases h1 : 1 ≤ x <;> simp [h1]
  have h2 : ∀ E : En, E.length = 5 → lcRun (gNm 4) bYes (mChain leT leT (mC (.int 0)) (mVar 4) (mC (.int 1000000))) (E.set 4 none) (enI as) = some (enBl (as.map okAmount)) := by
    intro E hE
    refine lc_bools PyData.int okAmount as fun x hx => ⟨_, rfl, rfl, ?_⟩
    simp [-getElem?_pos, hE, okAmount]
    by_cases h1 : 0 ≤ x <;> simp [h1]
  have l1 := h1 [some (.p (enB (ps, as))), some (.p (.tuple (enI ps))), some (.p (.tuple (enI as))), none, none] rfl
  have l2 := h2 [some (.p (enB (ps, as))), some (.p (.tuple (enI ps))), some (.p (.tuple (enI as))), none, none] rfl
  simp only [List.set_cons_succ, List.set_cons_zero, enB] at l1 l2
  have q1 : ps.length ≤ LIM := by unfold LIM; omega
  have q2 : as.length ≤ LIM := by unfold LIM; omega
  have q3 : ∀ f : Int → Bool, (enBl (ps.map f)).length ≤ LIM := fun f => by unfold enBl; simp; exact q1
  have q4 : ∀ f : Int → Bool, (enBl (as.map f)).length ≤ LIM := fun f => by unfold enBl; simp; exact q2
  unfold isBuying
  by_cases c1 : 1 ≤ ps.length ∧ ps.length ≤ 6
  · have i1 : (1 : Int) ≤ (ps.length : Int) := by omega
    have i2 : (ps.length : Int) ≤ 6 := by omega
    by_cases c2 : ps.length = as.length
    · have i3 : (ps.length : Int) = (as.length : Int) := by omega
      have hne : as ≠ [] := fun z => by subst z; simp only [List.length_nil] at c2; omega
      obtain ⟨m, hm⟩ := maxI_some hne
      have hp := max_pos hm
      have c3 : 1 ≤ as.length ∧ as.length ≤ 6 := by omega
      have j1 : (1 : Int) ≤ (as.length : Int) := by omega
      have j2 : (as.length : Int) ≤ 6 := by omega
      have e1 : (ps.map okPrice).all id = ps.all okPrice := by simp [List.all_map]
      have e2 : (as.map okAmount).all id = as.all okAmount := by simp [List.all_map]
      cases a1 : ps.all okPrice
      · rw [a1] at e1
        simp [enB, enI_length, j1, j2, c2, c3, l1, q3, q4, allT_b, e1, a1, hp]
      · rw [a1] at e1
        cases a2 : as.all okAmount
        · rw [a2] at e2
          simp [enB, enI_length, j1, j2, c2, c3, l1, l2, q3, q4, allT_b, e1, a1, e2, a2, hp]
        · rw [a2] at e2
          simp [enB, enI_length, j1, j2, c2, c3, l1, l2, q3, q4, allT_b, e1, a1, e2, a2, hp, maxT_t hm]
    · have i3 : ¬ (ps.length : Int) = (as.length : Int) := by omega
      simp [enB, enI_length, i1, i2, i3, c1, c2]
  · have : ¬ (1 ≤ (ps.length : Int)) ∨ ¬ ((ps.length : Int) ≤ 6) := by omega
    rcases this with z | z
    · simp [enB, enI_length, z, c1]
    · by_cases z1 : (1 : Int) ≤ (ps.length : Int)
      · simp [enB, enI_length, z, z1, c1]
      · simp [enB, enI_length, z1, c1]
end B
/-! B5: is_book and the law's own test. -/
namespace B
open PySem PySem.Spec PyProof.Rows L2 M

theorem forRun_search {α : Type} {g : D → En → Option En} {mb : SM} (en : α → D) (ok : α → Bool) (r : T) (P : En → Prop) : ∀ (xs : List α) (env : En), P env →
    (∀ x ∈ xs, ∀ e, P e → ∃ e1, g (en x) e = some e1 ∧ (ok x = true → ∃ e2, (mb e1 = some (.nx e2) ∨ mb e1 = some (.ct e2)) ∧ P e2) ∧ (ok x = false → mb e1 = some (.rt r))) →
    (xs.all ok = true → ∃ e, forRun g mb (xs.map en) env = some (.nx e) ∧ P e) ∧ (xs.all ok = false → forRun g mb (xs.map en) env = some (.rt r))
  | [], env, h, _ => ⟨fun _ => ⟨env, rfl, h⟩, fun z => by simp at z⟩
  | x :: t, env, h, hs => by
    obtain ⟨e1, h1, h2, h3⟩ := hs x List.mem_cons_self env h
    cases hk : ok x with
    | true =>
      obtain ⟨e2, h4, h5⟩ := h2 hk
      obtain ⟨i1, i2⟩ := forRun_search en ok r P t e2 h5 (fun y hy => hs y (List.mem_cons_of_mem _ hy))
      have hr : forRun g mb ((x :: t).map en) env = forRun g mb (t.map en) e2 := by
        simp only [List.map_cons, forRun, h1, Option.bind_some]
        rcases h4 with h4 | h4 <;> simp only [h4, Option.bind_some]
      rw [hr, List.all_cons, hk, Bool.true_and]
      exact ⟨i1, i2⟩
    | false =>
      rw [List.all_cons, hk, Bool.false_and]
      refine ⟨fun z => by simp at z, fun _ => ?_⟩
      simp only [List.map_cons, forRun, h1, Option.bind_some, h3 hk]

def Sane (bk : List Buy) : Prop := bk.length ≤ 1000 ∧ ∀ b ∈ bk, b.1.length ≤ 1000 ∧ b.2.length ≤ 1000

theorem is_book (bk : List Buy) (h : Sane bk) : callT Q.is_book [.p (enBk bk)] = some (.p (.bool (isBook bk))) := by
  refine callT_p rfl ?_
  unfold Q.is_book runFn startE
  have q1 : bk.length ≤ LIM := by have := h.1; unfold LIM; omega
  have q3 : ∀ f : Buy → Bool, (enBl (bk.map f)).length ≤ LIM := fun f => by unfold enBl; simp; exact q1
  have l1 : lcRun (gNm 1) bYes (mCall (callT Q.is_buying) (aCons (mVar 1) (aNil))) [some (.p (.list (bk.map enB))), none] (bk.map enB) = some (enBl (bk.map isBuying)) := by
    refine lc_bools enB isBuying bk fun x hx => ⟨_, rfl, rfl, ?_⟩
    simp [is_buying x (h.2 x hx).1 (h.2 x hx).2]
  unfold isBook enBk
  by_cases c1 : 1 ≤ bk.length ∧ bk.length ≤ 12
  · have i1 : (1 : Int) ≤ (bk.length : Int) := by omega
    have i2 : (bk.length : Int) ≤ 12 := by omega
    obtain ⟨b0, rest, hbk⟩ : ∃ b0 rest, bk = b0 :: rest := by
      cases bk with
      | nil => simp at c1
      | cons b r => exact ⟨b, r, rfl⟩
    have hat : atI (bk.map enB) 0 = some (enB b0) := by subst hbk; rw [atI_lt (by omega) (by simp only [List.length_map]; omega)]; rfl
    have hat0 : ∀ b : Buy, atI [PyData.tuple (enI b.1), PyData.tuple (enI b.2)] 0 = some (.tuple (enI b.1)) := fun _ => rfl
    have l2 : lcRun (gNm 1) bYes (mOp eqT (mCall lenT (aCons (mOp idxT (mVar 1) (mC (.int 0))) (aNil))) (mCall lenT (aCons (mOp idxT (mOp idxT (mVar 0) (mC (.int 0))) (mC (.int 0))) (aNil)))) [some (.p (.list (bk.map enB))), none] (bk.map enB) = some (enBl (bk.map fun b => decide (b.1.length = b0.1.length))) := by
      refine lc_bools enB _ bk fun x hx => ⟨_, rfl, rfl, ?_⟩
      simp [hat, enB, hat0, enI_length, Int.ofNat_inj]
    have e1 : (bk.map isBuying).all id = bk.all isBuying := by simp [List.all_map]
    have e2 : (bk.map fun b => decide (b.1.length = b0.1.length)).all id = bk.all fun b => decide (b.1.length = b0.1.length) := by simp [List.all_map]
    have e3 : (bk.headD ([], [])) = b0 := by subst hbk; rfl
    rw [e3]
    cases a1 : bk.all isBuying
    · rw [a1] at e1
      simp only [ev_sCons, ev_sIf, ev_bOr, ev_bNot, ev_bVal, ev_mChain, ev_mC, ev_mCall, ev_aCons, ev_mVar, ev_aNil]
      simp [i1, i2, c1, l1, q3, allT_b, e1]
    · rw [a1] at e1
      have e2' := e2
      simp [i1, i2, c1, l1, l2, q3, allT_b, e1, -List.all_map, -List.all_eq_true, e2]
  · have : ¬ (1 ≤ (bk.length : Int)) ∨ ¬ ((bk.length : Int) ≤ 12) := by omega
    rcases this with z | z
    · simp [z, c1]
    · by_cases z1 : (1 : Int) ≤ (bk.length : Int)
      · simp [z, z1, c1]
      · simp [z1, c1]

theorem buying_mm {ps as : List Int} {mx mn1 mn2 mx2 : Int} (h1 : maxI (ps ++ as) = some mx) (h2 : minI ps = some mn1) (h3 : minI as = some mn2) (h4 : maxI as = some mx2) :
    (ps.all okPrice && as.all okAmount && as.any (fun a => decide (0 < a))) = (decide (mx ≤ 1000000) && decide (1 ≤ mn1) && decide (0 ≤ mn2) && decide (1 ≤ mx2)) := by
  obtain ⟨a1, b1⟩ := maxI_spec h1
  obtain ⟨a2, b2⟩ := minI_spec h2
  obtain ⟨a3, b3⟩ := minI_spec h3
  obtain ⟨a4, b4⟩ := maxI_spec h4
  rw [Bool.eq_iff_iff]
  simp only [Bool.and_eq_true, List.all_eq_true, List.any_eq_true, decide_eq_true_eq, okPrice, okAmount]
  constructor
  · rintro ⟨⟨p, q⟩, x, hx, hx0⟩
    have := b4 x hx
    refine ⟨⟨⟨?_, (p _ a2).1⟩, (q _ a3).1⟩, by omega⟩
    rcases List.mem_append.mp a1 with z | z
    · exact (p _ z).2
    · exact (q _ z).2
  · rintro ⟨⟨⟨p, q⟩, r⟩, s⟩
    refine ⟨⟨fun x hx => ?_, fun x hx => ?_⟩, mx2, a4, by omega⟩
    · have := b1 x (List.mem_append_left _ hx)
      have := b2 x hx
      omega
    · have := b1 x (List.mem_append_right _ hx)
      have := b3 x hx
      omega

theorem enI_append (a b : List Int) : enI a ++ enI b = enI (a ++ b) := by simp [enI]
theorem law_due (bk : List Buy) (h : Sane bk) : callT Q.law_due [.p (enBk bk)] = some (.p (.bool (isBook bk))) := by
  refine callT_p rfl ?_
  unfold Q.law_due runFn startE
  unfold enBk isBook
  by_cases c1 : 1 ≤ bk.length ∧ bk.length ≤ 12
  · have i1 : ¬ ((bk.length : Int) < 1) := by omega
    have i2 : ¬ (12 < (bk.length : Int)) := by omega
    obtain ⟨b0, rest, hbk⟩ : ∃ b0 rest, bk = b0 :: rest := by
      cases bk with
      | nil => simp at c1
      | cons b r => exact ⟨b, r, rfl⟩
    have hat : atI (bk.map enB) 0 = some (enB b0) := by subst hbk; rw [atI_lt (by omega) (by simp only [List.length_map]; omega)]; rfl
    have hat0 : ∀ b : Buy, atI [PyData.tuple (enI b.1), PyData.tuple (enI b.2)] 0 = some (.tuple (enI b.1)) := fun _ => rfl
    have e3 : (bk.headD ([], [])) = b0 := by subst hbk; rfl
    rw [e3]
    let ok : Buy → Bool := fun b => isBuying b && decide (b.1.length = b0.1.length)
    obtain ⟨s1, s2⟩ := forRun_search (g := gTp (gCn (gNm 1) (gCn (gNm 2) (gNl)))) (mb := Q.law_due_L1) enB ok (.p (.bool false)) (fun e => ∃ x y, e = [some (.p (.list (bk.map enB))), x, y]) bk [some (.p (.list (bk.map enB))), none, none] ⟨_, _, rfl⟩ (by
      rintro ⟨ps, as⟩ hx _ ⟨x, y, rfl⟩
      have hs := h.2 _ hx
      simp only at hs
      refine ⟨[some (.p (.list (bk.map enB))), some (.p (.tuple (enI ps))), some (.p (.tuple (enI as)))], rfl, ?_⟩
      unfold Q.law_due_L1
      have q1 : ps.length + as.length ≤ LIM := by unfold LIM; omega
      by_cases d1 : 1 ≤ ps.length ∧ ps.length ≤ 6
      · have j1 : (1 : Int) ≤ (ps.length : Int) := by omega
        have j2 : (ps.length : Int) ≤ 6 := by omega
        by_cases d2 : ps.length = as.length
        · have k2 : (ps.length : Int) = (as.length : Int) := by omega
          have k1 : (1 : Int) ≤ (as.length : Int) := by omega
          have k3 : (as.length : Int) ≤ 6 := by omega
          by_cases d3 : ps.length = b0.1.length
          · have k4 : (as.length : Int) = (b0.1.length : Int) := by omega
            have k5 : (1 : Int) ≤ (b0.1.length : Int) := by omega
            have k6 : (b0.1.length : Int) ≤ 6 := by omega
            obtain ⟨mx, m1⟩ := maxI_some (xs := ps ++ as) (fun z => by have := congrArg List.length z; simp only [List.length_append, List.length_nil] at this; omega)
            obtain ⟨mn1, m2⟩ := minI_some (xs := ps) (fun z => by subst z; simp only [List.length_nil] at d1; omega)
            have hane : as ≠ [] := fun z => by subst z; simp only [List.length_nil] at d2; omega
            obtain ⟨mn2, m3⟩ := minI_some hane
            obtain ⟨mx2, m4⟩ := maxI_some hane
            have hok : ok (ps, as) = (decide (mx ≤ 1000000) && decide (1 ≤ mn1) && decide (0 ≤ mn2) && decide (1 ≤ mx2)) := by
              rw [← buying_mm m1 m2 m3 m4]
              simp only [ok, isBuying, d1, d2.symm, d3]
              simp [← d3, d1]
            rw [hok]
            have l2 : ps.length = as.length := d2
            have p1 : (ps.length : Int) = (b0.1.length : Int) := by omega
            have p2 : (as.length : Int) = (b0.1.length : Int) := by omega
            by_cases z1 : mx ≤ 1000000
            · have z1' : ¬ 1000000 < mx := by omega
              by_cases z2 : 1 ≤ mn1
              · have z2' : ¬ mn1 < 1 := by omega
                by_cases z3 : 0 ≤ mn2
                · have z3' : ¬ mn2 < 0 := by omega
                  by_cases z4 : 1 ≤ mx2
                  · have z4' : ¬ mx2 < 1 := by omega
                    simp [hat, enB, hat0, enI_length, p1, p2, k5, k6, enI_append, q1, maxT_t m1, minT_t m2, minT_t m3, maxT_t m4, z1, z2, z3, z4, z1', z2', z3', z4']
                  · have z4' : mx2 < 1 := by omega
                    simp [hat, enB, hat0, enI_length, p1, p2, k5, k6, enI_append, q1, maxT_t m1, minT_t m2, minT_t m3, maxT_t m4, z1, z2, z3, z4, z1', z2', z3', z4']
                · have z3' : mn2 < 0 := by omega
                  simp [hat, enB, hat0, enI_length, p1, p2, k5, k6, enI_append, q1, maxT_t m1, minT_t m2, minT_t m3, maxT_t m4, z1, z2, z3, z1', z2', z3']
              · have z2' : mn1 < 1 := by omega
                simp [hat, enB, hat0, enI_length, p1, p2, k5, k6, enI_append, q1, maxT_t m1, minT_t m2, minT_t m3, maxT_t m4, z1, z2, z1', z2']
            · have z1' : 1000000 < mx := by omega
              simp [hat, enB, hat0, enI_length, p1, p2, k5, k6, enI_append, q1, maxT_t m1, z1, z1']
          · have p1 : ¬ (ps.length : Int) = (b0.1.length : Int) := by omega
            have p2 : ¬ (as.length : Int) = (b0.1.length : Int) := by omega
            have hok : ok (ps, as) = false := by simp [ok, d3]
            rw [hok]
            refine ⟨fun z => (nomatch z), fun _ => ?_⟩
            simp [hat, enB, hat0, enI_length, p1, p2, k1, k3, k2]
        · have k2 : ¬ (ps.length : Int) = (as.length : Int) := by omega
          have hok : ok (ps, as) = false := by simp [ok, isBuying, d2]
          rw [hok]
          refine ⟨fun z => (nomatch z), fun _ => ?_⟩
          simp [enI_length, j1, j2, k2]
      · have hok : ok (ps, as) = false := by simp only [ok, isBuying, d1]; simp
        rw [hok]
        refine ⟨fun z => (nomatch z), fun _ => ?_⟩
        by_cases z1 : (1 : Int) ≤ (ps.length : Int)
        · have z2 : ¬ (ps.length : Int) ≤ 6 := by omega
          simp [enI_length, z1, z2]
        · simp [enI_length, z1])
    have hall : bk.all ok = (bk.all isBuying && bk.all fun b => decide (b.1.length = b0.1.length)) := by
      rw [Bool.eq_iff_iff]
      simp only [ok, Bool.and_eq_true, List.all_eq_true]
      exact ⟨fun z => ⟨fun x hx => (z x hx).1, fun x hx => (z x hx).2⟩, fun z x hx => ⟨z.1 x hx, z.2 x hx⟩⟩
    have hdec : decide (1 ≤ bk.length ∧ bk.length ≤ 12) = true := by simp [c1]
    rw [hdec, Bool.true_and, ← hall]
    cases hv : bk.all ok with
    | true =>
      obtain ⟨e, he, _⟩ := s1 hv
      simp [i1, i2, he]
    | false =>
      have he := s2 hv
      simp [i1, i2, he]
  · have : ((bk.length : Int) < 1) ∨ (12 < (bk.length : Int)) := by omega
    have hdec : decide (1 ≤ bk.length ∧ bk.length ≤ 12) = false := by simp only [c1, decide_false]
    rw [hdec]
    rcases this with z | z
    · simp [z]
    · by_cases z1 : (bk.length : Int) < 1
      · simp [z1]
      · simp [z1, z]
end B
/-! B6: the law's spoilt book (k01). -/
namespace B
open PySem PySem.Spec PyProof.Rows L2 M

theorem oxS {a b : SM} {env : En} {Post : Out → Prop} (Q : En → Prop) (h1 : ∃ e, a env = some (.nx e) ∧ Q e) (h2 : ∀ e, Q e → ∃ o, b e = some o ∧ Post o) : ∃ o, sCons a b env = some o ∧ Post o := by
  obtain ⟨e, h3, h4⟩ := h1
  obtain ⟨e', h5, h6⟩ := h2 e h4
  exact ⟨e', by rw [stepS h3]; exact h5, h6⟩
theorem oxE {a b : SM} {env : En} {Post : Out → Prop} (e : En) (h1 : a env = some (.nx e)) (h2 : ∃ o, b e = some o ∧ Post o) : ∃ o, sCons a b env = some o ∧ Post o := by
  obtain ⟨e', h5, h6⟩ := h2
  exact ⟨e', by rw [stepS h1]; exact h5, h6⟩
theorem run_of {n : Nat} {body : SM} {ts : List T} {t : T} (h : ∃ o, body (startE n ts) = some o ∧ o = .rt t) : runFn n body ts = some t := by
  obtain ⟨o, h1, rfl⟩ := h
  unfold runFn
  rw [h1]
  rfl
theorem run_ex {n : Nat} {body : SM} {ts : List T} {P : T → Prop} (h : ∃ o, body (startE n ts) = some o ∧ ∃ t, o = .rt t ∧ P t) : ∃ t, runFn n body ts = some t ∧ P t := by
  obtain ⟨o, h1, t, rfl, h2⟩ := h
  refine ⟨t, ?_, h2⟩
  unfold runFn
  rw [h1]
  rfl
@[simp] theorem ev_atix {k : Nat} {π : List Stp} {ts : List T} : T.at (.ix k :: π) (.ml ts) = (ts[k]?).bind fun u => T.at π u := rfl
@[simp] theorem ev_putix {k : Nat} {π : List Stp} {ts : List T} {u : T} : T.put (.ix k :: π) (.ml ts) u = (ts[k]?).bind fun c => (T.put π c u).map fun c' => .ml (ts.set k c') := rfl
@[simp] theorem ev_mull {ds : List D} {j : Int} : mulT (.p (.list ds)) (.p (.int j)) = if -(2 ^ 62) ≤ j ∧ j < 2 ^ 62 ∧ ds.length * j.toNat ≤ LIM then some (.p (.list (List.replicate j.toNat ds).flatten)) else none := rfl
theorem mp_set (ps : List Int) (k : Nat) (v : Int) : ((enI ps).map T.p).set k (T.p (.int v)) = (enI (ps.set k v)).map T.p := by simp [enI, List.map_set]
theorem mp_app (ps : List Int) (v : Int) : (enI ps).map T.p ++ [T.p (.int v)] = (enI (ps ++ [v])).map T.p := by simp [enI]
theorem mp_era (ps : List Int) (k : Nat) : ((enI ps).map T.p).eraseIdx k = (enI (ps.eraseIdx k)).map T.p := by
  unfold enI
  induction ps generalizing k with
  | nil => simp
  | cons x r ih => cases k with
    | zero => simp
    | succ k => simp only [List.map_cons, List.eraseIdx_cons_succ, ih k]
def mI (xs : List Int) : T := .ml ((enI xs).map T.p)
@[simp] theorem strip_mI (xs : List Int) : (mI xs).strip = mI xs := rfl
@[simp] theorem wrap_mI (xs : List Int) (u : T) : (mI xs).wrap u = u := rfl
theorem snap_mI (xs : List Int) : (mI xs).snap = some (.list (enI xs)) := by unfold mI; simp [T.snap, snaps_p]
theorem ix20 {n : Nat} {x : Int} (hn : n = 2) (h : x = 0) : ixN n x = some 0 := by subst hn h; rfl
theorem ix21 {n : Nat} {x : Int} (hn : n = 2) (h : x = 1) : ixN n x = some 1 := by subst hn h; rfl
theorem len_mI (xs : List Int) : lenT [mI xs] = some (.p (.int xs.length)) := by unfold mI; rw [ev_lenm]; simp [enI_length]
theorem ne_nil_bk (bk : List Buy) : M.neT (.p (enBk bk)) (.p (.list [])) = some (.p (.bool (!bk.isEmpty))) := by
  have h1 : SeqAt.shaped (.list (bk.map enB)) = true := shaped_bk bk
  have h2 : SeqAt.shaped (.list []) = true := by simp [SeqAt.shaped, PyData.canLay0, PyData.canLayAll0, PyData.depth, PyData.depthAll]
  simp only [M.neT, ev_snap, Option.bind_some, enBk, h1, h2, and_self, if_true]
  cases bk <;> simp [PyData.eqv, PyData.eqvAll]
theorem cutL_enB (bk : List Buy) (lo hi : Option Int) : cutL (bk.map enB) lo hi = (cutL bk lo hi).map enB := by
  unfold cutL
  simp [List.map_take, List.map_drop]
theorem flat_map {α β : Type} (f : α → β) (n : Nat) (xs : List α) : (List.replicate n (xs.map f)).flatten = ((List.replicate n xs).flatten).map f := by
  simp [List.map_flatten]

theorem spoilt_sides (bk : T) (picks : List Int) (at' : Int) (ps as : List Int) (side k form p4 : Int) (hp4 : atI (enI picks) 4 = some (.int p4)) (hs : side = 0 ∨ side = 1) (hk0 : 0 ≤ k) (hk : k < (if side = 0 then ps.length else as.length)) (hf0 : 0 ≤ form) (hf : form < 11) (hps : ps.length ≤ 6) (has : as.length ≤ 6) (rest : SM) :
    ∃ u0 u1 ps' as', sCons (sIf (bOp ltT (mVar 6) (mC (.int 4))) (sSetIx (pIx (pVar 3) (mVar 4)) (mVar 5) (mOp idxT (mLst (aCons (mC (.int 0)) (aCons (mOp addT (mOp powT (mC (.int 10)) (mC (.int 6))) (mC (.int 1))) (aCons (mNeg (mC (.int 1))) (aCons (mOp powT (mC (.int 10)) (mC (.int 6))) (aNil)))))) (mVar 6))) (sNil)) (sCons (sIf (bOp eqT (mVar 6) (mC (.int 4))) (sAppend (pIx (pVar 3) (mVar 4)) (mOp addT (mC (.int 1)) (mOp modT (mOp idxT (mVar 1) (mC (.int 4))) (mC (.int 3))))) (sNil)) (sCons (sIf (bOp eqT (mVar 6) (mC (.int 5))) (sPopAt (pIx (pVar 3) (mVar 4)) (mVar 5)) (sNil)) (sCons (sIf (bOp eqT (mVar 6) (mC (.int 6))) (sSetF 3 (mLstF (aCons (mRepF (mLst (aCons (mC (.int 1)) (aNil))) (mOp idxT (mLst (aCons (mC (.int 0)) (aCons (mC (.int 7)) (aCons (mC (.int 6)) (aNil))))) (mOp modT (mOp idxT (mVar 1) (mC (.int 4))) (mC (.int 3))))) (aCons (mRepF (mLst (aCons (mC (.int 1)) (aNil))) (mOp idxT (mLst (aCons (mC (.int 0)) (aCons (mC (.int 7)) (aCons (mC (.int 6)) (aNil))))) (mOp modT (mOp idxT (mVar 1) (mC (.int 4))) (mC (.int 3))))) (aNil))))) (sNil)) (sCons (sIf (bOp eqT (mVar 6) (mC (.int 7))) (sSetIx (pVar 3) (mC (.int 1)) (mOp mulT (mLst (aCons (mC (.int 0)) (aNil))) (mCall lenT (aCons (mOp idxT (mVar 3) (mC (.int 1))) (aNil))))) (sNil)) rest))))
      [some bk, some (.p (.list (enI picks))), some (.p (.int at')), some (.ml [mI ps, mI as]), some (.p (.int side)), some (.p (.int k)), some (.p (.int form)), none] =
      rest [some bk, some (.p (.list (enI picks))), some (.p (.int at')), some (.ml [u0, u1]), some (.p (.int side)), some (.p (.int k)), some (.p (.int form)), none] ∧ u0.snap = some (.list (enI ps')) ∧ u1.snap = some (.list (enI as')) ∧ ps'.length ≤ 7 ∧ as'.length ≤ 7 := by
  have L1 : 1 ≤ LIM := by decide
  have L2' : 2 ≤ LIM := by decide
  have L3 : 3 ≤ LIM := by decide
  have L4 : 4 ≤ LIM := by decide
  have L6 : 6 ≤ LIM := by decide
  have L7 : 7 ≤ LIM := by decide
  have L0 : 0 ≤ LIM := Nat.zero_le _
  have ips : ps.length < LIM := by unfold LIM; omega
  have ias : as.length < LIM := by unfold LIM; omega
  have f3 : ∀ x : Int, x.fmod 3 = x % 3 := fun x => fmod_pos (by decide)
  have kk : k < 2 ^ 62 := by split at hk <;> omega
  have kk2 : -(2 ^ 62) ≤ k := by omega
  rcases (show form < 4 ∨ form = 4 ∨ form = 5 ∨ form = 6 ∨ form = 7 ∨ 8 ≤ form by omega) with c | c | c | c | c | c
  · obtain ⟨v, hv⟩ : ∃ v, atI [PyData.int 0, .int 1000001, .int (-1), .int 1000000] form = some (.int v) := by
      rcases (show form = 0 ∨ form = 1 ∨ form = 2 ∨ form = 3 by omega) with z | z | z | z <;> subst z
      · exact ⟨0, rfl⟩
      · exact ⟨1000001, rfl⟩
      · exact ⟨-1, rfl⟩
      · exact ⟨1000000, rfl⟩
    have n4 : ¬ form = 4 := by omega
    have n5 : ¬ form = 5 := by omega
    have n6 : ¬ form = 6 := by omega
    have n7 : ¬ form = 7 := by omega
    rcases hs with z | z
    · subst z
      have hk : k < ps.length := by simpa using hk
      have hix : ixN ((enI ps).map T.p).length k = some k.toNat := ixN_of hk0 (by simp [enI_length]; exact hk)
      refine ⟨mI (ps.set k.toNat v), mI as, ps.set k.toNat v, as, ?_, snap_mI _, snap_mI _, by simp; omega, by omega⟩
      simp only [mI]
      simp [-List.length_map, c, n4, n5, n6, n7, L4, hv, ix20, setN, hix, mp_set]
    · subst z
      have hk : k < as.length := by simpa using hk
      have hix : ixN ((enI as).map T.p).length k = some k.toNat := ixN_of hk0 (by simp [enI_length]; exact hk)
      refine ⟨mI ps, mI (as.set k.toNat v), ps, as.set k.toNat v, ?_, snap_mI _, snap_mI _, by omega, by simp; omega⟩
      simp only [mI]
      simp [-List.length_map, c, n4, n5, n6, n7, L4, hv, ix21, setN, hix, mp_set]
  · subst c
    rcases hs with z | z
    · subst z
      refine ⟨mI (ps ++ [1 + p4 % 3]), mI as, ps ++ [1 + p4 % 3], as, ?_, snap_mI _, snap_mI _, by simp; omega, by omega⟩
      simp only [mI]
      simp [hp4, f3, ix20, ips, enI_length, mp_app]
    · subst z
      refine ⟨mI ps, mI (as ++ [1 + p4 % 3]), ps, as ++ [1 + p4 % 3], ?_, snap_mI _, snap_mI _, by omega, by simp; omega⟩
      simp only [mI]
      simp [hp4, f3, ix21, ias, enI_length, mp_app]
  · subst c
    rcases hs with z | z
    · subst z
      have hk : k < ps.length := by simpa using hk
      have hix : ixN ((enI ps).map T.p).length k = some k.toNat := ixN_of hk0 (by simp [enI_length]; exact hk)
      refine ⟨mI (ps.eraseIdx k.toNat), mI as, ps.eraseIdx k.toNat, as, ?_, snap_mI _, snap_mI _, Nat.le_trans (List.length_eraseIdx_le _ _) (by omega), by omega⟩
      simp only [mI]
      simp [-List.length_map, ix20, hix, show -4611686018427387904 ≤ k by omega, show k < 4611686018427387904 by omega, mp_era]
    · subst z
      have hk : k < as.length := by simpa using hk
      have hix : ixN ((enI as).map T.p).length k = some k.toNat := ixN_of hk0 (by simp [enI_length]; exact hk)
      refine ⟨mI ps, mI (as.eraseIdx k.toNat), ps, as.eraseIdx k.toNat, ?_, snap_mI _, snap_mI _, by omega, Nat.le_trans (List.length_eraseIdx_le _ _) (by omega)⟩
      simp only [mI]
      simp [-List.length_map, ix21, hix, show -4611686018427387904 ≤ k by omega, show k < 4611686018427387904 by omega, mp_era]
  · subst c
    obtain ⟨v, hv, hv0, hv7⟩ : ∃ v : Int, atI [PyData.int 0, .int 7, .int 6] (p4 % 3) = some (.int v) ∧ 0 ≤ v ∧ v ≤ 7 := by
      rcases (show p4 % 3 = 0 ∨ p4 % 3 = 1 ∨ p4 % 3 = 2 by omega) with z | z | z <;> rw [z]
      · exact ⟨0, rfl, by decide, by decide⟩
      · exact ⟨7, rfl, by decide, by decide⟩
      · exact ⟨6, rfl, by decide, by decide⟩
    have hvb : -(2 ^ 62) ≤ v ∧ v < 2 ^ 62 ∧ v.toNat ≤ LIM := by unfold LIM; omega
    have hvb1 : v.toNat ≤ LIM := hvb.2.2
    have hr : (List.replicate v.toNat [T.p (PyData.int 1)]).flatten = (enI (List.replicate v.toNat 1)).map T.p := by
      unfold enI
      generalize v.toNat = n
      induction n with
      | zero => rfl
      | succ m ih => simp only [List.replicate_succ, List.flatten_cons, ih, List.map_cons]; rfl
    refine ⟨mI (List.replicate v.toNat 1), mI (List.replicate v.toNat 1), _, _, ?_, snap_mI _, snap_mI _, by simp; omega, by simp; omega⟩
    simp only [mI]
    simp [-List.flatten_replicate_singleton, hp4, f3, hv, L1, L2', L3, hvb1, hr, show v ≤ (LIM : Int) by omega, show -4611686018427387904 ≤ v by omega, show v < 4611686018427387904 by omega]
  · subst c
    obtain ⟨n, hn, hn0, hn6⟩ : ∃ n : Int, lenT [mI as] = some (.p (.int n)) ∧ 0 ≤ n ∧ n ≤ 6 := ⟨_, len_mI as, by omega, by omega⟩
    have hr : (List.replicate n.toNat [PyData.int 0]).flatten = enI (List.replicate n.toNat 0) := by
      unfold enI
      generalize n.toNat = m
      induction m with
      | zero => rfl
      | succ m ih => simp only [List.replicate_succ, List.flatten_cons, ih, List.map_cons]; rfl
    have h1 : atI [mI ps, mI as] 1 = some (mI as) := rfl
    refine ⟨mI ps, .p (.list (enI (List.replicate n.toNat 0))), ps, List.replicate n.toNat 0, ?_, snap_mI _, by simp, by omega, by simp; omega⟩
    have n1 : -4611686018427387904 ≤ n := by omega
    have n2 : n < 4611686018427387904 := by omega
    have n3 : n ≤ (LIM : Int) := by omega
    rw [stepS (e := [some bk, some (.p (.list (enI picks))), some (.p (.int at')), some (.ml [mI ps, mI as]), some (.p (.int side)), some (.p (.int k)), some (.p (.int 7)), none]) (by simp)]
    rw [stepS (e := [some bk, some (.p (.list (enI picks))), some (.p (.int at')), some (.ml [mI ps, mI as]), some (.p (.int side)), some (.p (.int k)), some (.p (.int 7)), none]) (by simp)]
    rw [stepS (e := [some bk, some (.p (.list (enI picks))), some (.p (.int at')), some (.ml [mI ps, mI as]), some (.p (.int side)), some (.p (.int k)), some (.p (.int 7)), none]) (by simp)]
    rw [stepS (e := [some bk, some (.p (.list (enI picks))), some (.p (.int at')), some (.ml [mI ps, mI as]), some (.p (.int side)), some (.p (.int k)), some (.p (.int 7)), none]) (by simp)]
    rw [stepS (e := [some bk, some (.p (.list (enI picks))), some (.p (.int at')), some (.ml [mI ps, .p (.list (enI (List.replicate n.toNat 0)))]), some (.p (.int side)), some (.p (.int k)), some (.p (.int 7)), none]) (by
      simp [-List.flatten_replicate_singleton, h1, hn, hr, ix21, setN, L1, n1, n2, n3])]
  · have n4 : ¬ form < 4 := by omega
    have n4 : ¬ form = 4 := by omega
    have n5 : ¬ form = 5 := by omega
    have n6 : ¬ form = 6 := by omega
    have n7 : ¬ form = 7 := by omega
    refine ⟨mI ps, mI as, ps, as, ?_, snap_mI _, snap_mI _, by omega, by omega⟩
    simp [*]
theorem at_bk {bk : List Buy} {i : Int} (h0 : 0 ≤ i) (h1 : i < bk.length) : ∃ b ∈ bk, atI (bk.map enB) i = some (enB b) ∧ bk[i.toNat]? = some b := by
  have : i.toNat < bk.length := by omega
  refine ⟨bk[i.toNat], List.getElem_mem this, ?_, by simp [this]⟩
  rw [atI_lt h0 (by simp only [List.length_map]; exact h1)]
  simp
theorem at_bkT {bk : List Buy} {i : Int} (h0 : 0 ≤ i) (h1 : i < bk.length) : ∃ b ∈ bk, atI (bk.map fun b => T.p (enB b)) i = some (.p (enB b)) ∧ bk[i.toNat]? = some b := by
  have : i.toNat < bk.length := by omega
  refine ⟨bk[i.toNat], List.getElem_mem this, ?_, by simp [this]⟩
  rw [atI_lt h0 (by simp only [List.length_map]; exact h1)]
  simp
theorem snap2 {u0 u1 : T} {a b : D} (h0 : u0.snap = some a) (h1 : u1.snap = some b) : (T.ml [u0, u1]).snap = some (.list [a, b]) := by
  simp [T.snap, snaps, h0, h1]
theorem refl_bk (bk : List Buy) : M.neT (.p (enBk bk)) (.p (enBk bk)) = some (.p (.bool false)) := by
  have h1 : SeqAt.shaped (.list (bk.map enB)) = true := shaped_bk bk
  simp only [M.neT, ev_snap, Option.bind_some, enBk, h1, and_self, if_true]
  have h2 := SeqAt.canLay_of_shaped h1
  rw [SeqAt.eqv_refl _ h2]
  rfl
theorem isi_bool (b : Bool) : isiT "bool" (.p (.bool b)) = some (.p (.bool true)) := by
  simp [isiT, tyN, isi]
theorem nodup_sub_le : ∀ {l m : List Int}, l.Nodup → (∀ x ∈ l, x ∈ m) → l.length ≤ m.length
  | [], _, _, _ => Nat.zero_le _
  | x :: r, m, hn, hs => by
    obtain ⟨h1, h2⟩ := List.nodup_cons.mp hn
    have hx := hs x List.mem_cons_self
    have := nodup_sub_le (l := r) (m := m.erase x) h2 (fun y hy => by
      refine (List.mem_erase_of_ne ?_).mpr (hs y (List.mem_cons_of_mem _ hy))
      intro e; subst e; exact h1 hy)
    rw [List.length_erase_of_mem hx] at this
    have hp := List.length_pos_of_mem hx
    rw [List.length_cons]
    omega

theorem flat_enI (xs : List Int) : (enI xs).all flatD = true := by
  unfold enI
  simp [flatD]
theorem flat_int (x : Int) : flatD (.int x) = true := rfl
theorem any_eqv (xs : List Int) (x : Int) : ((enI xs).any fun z => PyData.eqv z (.int x)) = decide (x ∈ xs) := by
  unfold enI
  rw [Bool.eq_iff_iff]
  simp [PyData.eqv]
theorem in_t (xs : List Int) (x : Int) : inT (.p (.int x)) (.p (.tuple (enI xs))) = some (.p (.bool (decide (x ∈ xs)))) := by
  simp [inT, -List.all_eq_true, flat_enI, any_eqv, flat_int]
theorem notIn_t (xs : List Int) (x : Int) : notInT (.p (.int x)) (.p (.tuple (enI xs))) = some (.p (.bool (!decide (x ∈ xs)))) := by
  simp [notInT, -List.all_eq_true, flat_enI, any_eqv, flat_int]
theorem notIn_l (xs : List Int) (x : Int) : notInT (.p (.int x)) (.p (.list (enI xs))) = some (.p (.bool (!decide (x ∈ xs)))) := by
  simp [notInT, -List.all_eq_true, flat_enI, any_eqv, flat_int]
theorem any_mI (xs : List Int) : (mI xs).any? = some (enI xs) := by
  simp only [mI, T.any?, T.seq?, pures_map]
theorem notIn_m (xs : List Int) (x : Int) : notInT (.p (.int x)) (mI xs) = some (.p (.bool (!decide (x ∈ xs)))) := by
  simp [notInT, any_mI, -List.all_eq_true, flat_enI, any_eqv, flat_int]

theorem ne_nil_ints (xs : List Int) : M.neT (.p (.list (enI xs))) (.p (.list [])) = some (.p (.bool (!xs.isEmpty))) := by
  have h1 : SeqAt.shaped (.list (enI xs)) = true := by
    simp [SeqAt.shaped, PyData.canLay0, canLay_ints, PyData.depth, depth_enI]
  have h2 : SeqAt.shaped (.list []) = true := by simp [SeqAt.shaped, PyData.canLay0, PyData.canLayAll0, PyData.depth, PyData.depthAll]
  simp only [M.neT, ev_snap, Option.bind_some, h1, h2, and_self, if_true]
  cases xs <;> simp [enI, PyData.eqv, PyData.eqvAll]
theorem lc_filter {g : D → En → Option En} {tt : En → Option Bool} {me : EM} {env : En} (p : Int → Bool) (xs : List Int) (h : ∀ x ∈ xs, ∃ e, g (.int x) env = some e ∧ tt e = some (p x) ∧ (p x = true → me e = some (.p (.int x)))) :
    lcRun g tt me env (enI xs) = some (enI (xs.filter p)) := by
  have := lcRun_of PyData.int p (fun x => .int x) xs h
  unfold enI
  exact this

end B
/-! B20: fractions as rational numbers. -/
namespace B
open PySem PySem.Spec PyProof.Rows L2 M

def enQ (q : Rat) : D := .tuple [.int q.num, .int q.den]
@[simp] theorem ev_abs {i : Int} : absT [.p (.int i)] = some (.p (.int i.natAbs)) := by
  have : (if i < 0 then -i else i) = (i.natAbs : Int) := by split <;> omega
  simp only [absT, ev_int, Option.map_some, this]
@[simp] theorem ev_sPar {i j : Nat} {ms : En → Option (List T)} {env : En} : sPar i j ms env = (ms env).bind fun ts => (pures ts).bind fun ds => match ds with
  | [a, b] => some (.nx ((env.set i (some (.p a))).set j (some (.p b))))
  | _ => none := rfl
theorem gcd_run : ∀ (k x y n : Nat), y < 2 ^ k → 2 * k + 2 ≤ n → whileRun (bOp gtT (mVar 1) (mC (.int 0))) Q.divisor_L1 n [some (.p (.int x)), some (.p (.int y))] = some (.nx [some (.p (.int (Nat.gcd x y))), some (.p (.int 0))])
  | 0, x, y, n, hy, hn => by
    have hy0 : y = 0 := by simpa using hy
    subst hy0
    obtain ⟨m, rfl⟩ : ∃ m, n = m + 1 := ⟨n - 1, by omega⟩
    simp [whileRun]
  | k + 1, x, y, n, hy, hn => by
    obtain ⟨m, rfl⟩ : ∃ m, n = m + 1 := ⟨n - 1, by omega⟩
    by_cases h0 : y = 0
    · subst h0
      simp [whileRun]
    · have hyp : 0 < y := by omega
      have e1 : (x : Int).fmod (y : Int) = ((x % y : Nat) : Int) := by rw [fmod_pos (by omega)]; rfl
      have step : whileRun (bOp gtT (mVar 1) (mC (.int 0))) Q.divisor_L1 (m + 1) [some (.p (.int x)), some (.p (.int y))] = whileRun (bOp gtT (mVar 1) (mC (.int 0))) Q.divisor_L1 m [some (.p (.int y)), some (.p (.int ((x % y : Nat) : Int)))] := by
        have : Q.divisor_L1 [some (.p (.int x)), some (.p (.int y))] = some (.nx [some (.p (.int y)), some (.p (.int ((x % y : Nat) : Int)))]) := by
          unfold Q.divisor_L1
          simp [h0, -Int.natCast_emod, e1]
        simp only [whileRun, this]
        simp [hyp]
      rw [step]
      have hr : x % y < y := Nat.mod_lt _ hyp
      have hg : Nat.gcd x y = Nat.gcd y (x % y) := by rw [Nat.gcd_comm, Nat.gcd_rec, Nat.gcd_comm]
      by_cases h1 : x % y < 2 ^ k
      · rw [gcd_run k y (x % y) m h1 (by omega), hg]
      · obtain ⟨l, rfl⟩ : ∃ l, m = l + 1 := ⟨m - 1, by omega⟩
        obtain ⟨r, hrr⟩ : ∃ r, x % y = r := ⟨_, rfl⟩
        rw [hrr] at h1 hr hg ⊢
        have hrp : 0 < r := by have := Nat.two_pow_pos k; omega
        have hr0 : r ≠ 0 := by omega
        have e2 : (y : Int).fmod (r : Int) = ((y % r : Nat) : Int) := by rw [fmod_pos (by omega)]; rfl
        have step2 : whileRun (bOp gtT (mVar 1) (mC (.int 0))) Q.divisor_L1 (l + 1) [some (.p (.int y)), some (.p (.int r))] = whileRun (bOp gtT (mVar 1) (mC (.int 0))) Q.divisor_L1 l [some (.p (.int r)), some (.p (.int ((y % r : Nat) : Int)))] := by
          have : Q.divisor_L1 [some (.p (.int y)), some (.p (.int r))] = some (.nx [some (.p (.int r)), some (.p (.int ((y % r : Nat) : Int)))]) := by
            unfold Q.divisor_L1
            simp [hr0, -Int.natCast_emod, e2]
          simp only [whileRun, this]
          simp [hrp]
        rw [step2]
        have h2 : y % r < 2 ^ k := by
          have e3 : y % r = (y - r) % r := Nat.mod_eq_sub_mod (by omega)
          have e4 := Nat.mod_le (y - r) r
          have e5 : 2 ^ (k + 1) = 2 * 2 ^ k := by rw [Nat.pow_succ, Nat.mul_comm]
          omega
        have hg2 : Nat.gcd y r = Nat.gcd r (y % r) := by rw [Nat.gcd_comm, Nat.gcd_rec, Nat.gcd_comm]
        rw [gcd_run k r (y % r) l h2 (by omega), hg, hg2]

theorem divisor (a b : Int) (hb : b.natAbs < 2 ^ 100000) : callT Q.divisor [.p (.int a), .p (.int b)] = some (.p (.int (Int.gcd a b))) := by
  refine callT_p rfl ?_
  unfold Q.divisor
  refine run_of ?_
  rw [show startE 2 [T.p (.int a), T.p (.int b)] = [some (.p (.int a)), some (.p (.int b))] from rfl]
  refine oxE [some (.p (.int a.natAbs)), some (.p (.int b))] (by simp) ?_
  refine oxE [some (.p (.int a.natAbs)), some (.p (.int b.natAbs))] (by simp) ?_
  refine oxE [some (.p (.int (Nat.gcd a.natAbs b.natAbs))), some (.p (.int 0))] (by
    rw [ev_sWhile]
    exact gcd_run 100000 _ _ _ hb (by unfold FUEL; omega)) ?_
  exact ⟨_, rfl, rfl⟩

def Sz (k : Nat) (i : Int) : Prop := i.natAbs < 2 ^ k
theorem divOk_sz {j : Int} (h0 : j ≠ 0) (h : Sz 9000 j) : divOk j = true := by
  unfold divOk
  have : j.natAbs ≠ 0 := by omega
  have h2 : j.natAbs.log2 < 9000 := (Nat.log2_lt this).mpr h
  simp [h0, h2]
theorem fdiv_exact {a g : Int} (h : g ∣ a) : a.fdiv g = a / g := Int.fdiv_eq_ediv_of_dvd h
theorem fraction (a b : Int) (hb : b ≠ 0) (sb : Sz 9000 b) : callT Q.fraction [.p (.int a), .p (.int b)] = some (.p (enQ (Rat.divInt a b))) := by
  have hlt : (2 : Nat) ^ 9000 ≤ 2 ^ 100000 := Nat.pow_le_pow_right (by decide) (by decide)
  have hdv := divisor a b (Nat.lt_of_lt_of_le sb hlt)
  refine callT_p rfl ?_
  unfold Q.fraction
  refine run_of ?_
  rw [show startE 3 [T.p (.int a), T.p (.int b)] = [some (.p (.int a)), some (.p (.int b)), none] from rfl]
  obtain ⟨g, hg⟩ : ∃ g : Nat, Int.gcd a b = g := ⟨_, rfl⟩
  have hgp : 0 < g := by
    rw [← hg]; exact Int.gcd_pos_of_ne_zero_right a hb
  have d1 : (g : Int) ∣ a := by rw [← hg]; exact Int.gcd_dvd_left ..
  have d2 : (g : Int) ∣ b := by rw [← hg]; exact Int.gcd_dvd_right ..
  rw [hg] at hdv
  refine oxE [some (.p (.int a)), some (.p (.int b)), some (.p (.int g))] (by simp [hdv]) ?_
  have hgle : g ≤ b.natAbs := Nat.le_of_dvd (by omega) (by have := Int.natAbs_dvd_natAbs.mpr d2; rwa [Int.natAbs_natCast] at this)
  have sg : Sz 9000 (g : Int) := by unfold Sz at *; rw [Int.natAbs_natCast]; omega
  have sg' : Sz 9000 (-(g : Int)) := by unfold Sz at *; rw [Int.natAbs_neg, Int.natAbs_natCast]; omega
  have ok1 : divOk (g : Int) = true := divOk_sz (by omega) sg
  have ok2 : divOk (-(g : Int)) = true := divOk_sz (by omega) sg'
  have L2' : 2 ≤ LIM := by decide
  have hnum : (Rat.divInt a b).num = b.sign * a / g := by rw [Rat.num_divInt, Int.gcd_comm, hg]
  have hden : ((Rat.divInt a b).den : Int) = b.natAbs / g := by
    rw [Rat.den_divInt, if_neg hb, Int.gcd_comm, hg]; rfl
  by_cases hneg : b < 0
  · refine oxE [some (.p (.int a)), some (.p (.int b)), some (.p (.int (-(g : Int))))] (by simp [hneg]) ?_
    refine ⟨_, ?_, rfl⟩
    have e1 : a.fdiv (-(g : Int)) = (Rat.divInt a b).num := by
      rw [fdiv_exact (Int.neg_dvd.mpr d1), hnum, Int.sign_eq_neg_one_of_neg hneg]
      rw [Int.ediv_neg, Int.neg_mul, Int.one_mul, Int.neg_ediv_of_dvd d1]
    have e2 : b.fdiv (-(g : Int)) = (Rat.divInt a b).den := by
      rw [fdiv_exact (Int.neg_dvd.mpr d2), hden, Int.ediv_neg, ← Int.neg_ediv_of_dvd d2]
      congr 1; omega
    unfold enQ
    simp [ok2, e1, e2, L2']
  · refine oxE [some (.p (.int a)), some (.p (.int b)), some (.p (.int (g : Int)))] (by simp [hneg]) ?_
    refine ⟨_, ?_, rfl⟩
    have e1 : a.fdiv (g : Int) = (Rat.divInt a b).num := by
      rw [fdiv_exact d1, hnum, Int.sign_eq_one_of_pos (by omega), Int.one_mul]
    have e2 : b.fdiv (g : Int) = (Rat.divInt a b).den := by
      rw [fdiv_exact d2, hden]
      congr 1; omega
    unfold enQ
    simp [ok1, e1, e2, L2']

/-- a fraction of numbers below 2 ^ k -/
def SzQ (k : Nat) (q : Rat) : Prop := Sz k q.num ∧ Sz k (q.den : Int)
theorem Sz.mono {k l : Nat} {i : Int} (h : Sz k i) (hl : k ≤ l) : Sz l i := Nat.lt_of_lt_of_le h (Nat.pow_le_pow_right (by decide) hl)
theorem SzQ.mono {k l : Nat} {q : Rat} (h : SzQ k q) (hl : k ≤ l) : SzQ l q := ⟨h.1.mono hl, h.2.mono hl⟩
theorem Sz.mul {k l : Nat} {i j : Int} (h : Sz k i) (h2 : Sz l j) : Sz (k + l) (i * j) := by
  unfold Sz at *
  rw [Int.natAbs_mul, Nat.pow_add]
  exact Nat.mul_lt_mul_of_lt_of_le h (Nat.le_of_lt h2) (Nat.two_pow_pos _)
theorem Sz.add {k : Nat} {i j : Int} (h : Sz k i) (h2 : Sz k j) : Sz (k + 1) (i + j) := by
  unfold Sz at *
  rw [Nat.pow_succ]
  omega
theorem Sz.sub {k : Nat} {i j : Int} (h : Sz k i) (h2 : Sz k j) : Sz (k + 1) (i - j) := by
  unfold Sz at *
  rw [Nat.pow_succ]
  omega
theorem log2_sz {k : Nat} {i : Int} (h : Sz k i) : i.natAbs.log2 ≤ k := by
  by_cases h0 : i.natAbs = 0
  · rw [h0]; simp
  · exact Nat.le_of_lt ((Nat.log2_lt h0).mpr h)
theorem mulOk_sz {k l : Nat} {i j : Int} (h : Sz k i) (h2 : Sz l j) (hk : k + l < 1000000) : mulOk i j = true := by
  have a := log2_sz h
  have b := log2_sz h2
  have : i.natAbs.log2 + j.natAbs.log2 < 1000000 := by omega
  simp [mulOk, this]
theorem den_ne (q : Rat) : (q.den : Int) ≠ 0 := by have := q.den_nz; omega
theorem at_q0 (q : Rat) : atI [PyData.int q.num, PyData.int q.den] 0 = some (.int q.num) := rfl
theorem at_q1 (q : Rat) : atI [PyData.int q.num, PyData.int q.den] 1 = some (.int q.den) := rfl
theorem run_ret {n : Nat} {m : EM} {ts : List T} {d : D} (h : m (startE n ts) = some (.p d)) : runFn n (sRet m) ts = some (.p d) := by
  unfold runFn
  simp [h]
theorem plus (p q : Rat) (hp : SzQ 4400 p) (hq : SzQ 4400 q) : callT Q.plus [.p (enQ p), .p (enQ q)] = some (.p (enQ (p + q))) := by
  refine callT_p rfl ?_
  unfold Q.plus
  refine run_ret ?_
  have e : p + q = Rat.divInt (p.num * q.den + q.num * p.den) (p.den * q.den) := by
    have := Rat.divInt_add_divInt p.num q.num (den_ne p) (den_ne q)
    rw [Rat.num_divInt_den, Rat.num_divInt_den] at this
    exact this
  have h1 := fraction (p.num * q.den + q.num * p.den) (p.den * q.den) (Int.mul_ne_zero (den_ne p) (den_ne q)) ((hp.2.mul hq.2).mono (by decide))
  rw [← e] at h1
  unfold startE enQ at *
  simp [at_q0, at_q1, mulOk_sz hp.1 hq.2 (by decide), mulOk_sz hq.1 hp.2 (by decide), mulOk_sz hp.2 hq.2 (by decide), h1]
theorem minus (p q : Rat) (hp : SzQ 4400 p) (hq : SzQ 4400 q) : callT Q.minus [.p (enQ p), .p (enQ q)] = some (.p (enQ (p - q))) := by
  refine callT_p rfl ?_
  unfold Q.minus
  refine run_ret ?_
  have e : p - q = Rat.divInt (p.num * q.den - q.num * p.den) (p.den * q.den) := by
    have := Rat.divInt_sub_divInt p.num q.num (den_ne p) (den_ne q)
    rw [Rat.num_divInt_den, Rat.num_divInt_den] at this
    exact this
  have h1 := fraction (p.num * q.den - q.num * p.den) (p.den * q.den) (Int.mul_ne_zero (den_ne p) (den_ne q)) ((hp.2.mul hq.2).mono (by decide))
  rw [← e] at h1
  unfold startE enQ at *
  simp [at_q0, at_q1, mulOk_sz hp.1 hq.2 (by decide), mulOk_sz hq.1 hp.2 (by decide), mulOk_sz hp.2 hq.2 (by decide), h1]
theorem divInt_1 (k : Int) : Rat.divInt k 1 = (k : Rat) := by
  have := Rat.divInt_ofNat k 1
  rw [Rat.mkRat_one] at this
  exact this
theorem times (p : Rat) (k : Int) (hp : SzQ 8000 p) (hk : Sz 8000 k) : callT Q.times [.p (enQ p), .p (.int k)] = some (.p (enQ (p * k))) := by
  refine callT_p rfl ?_
  unfold Q.times
  refine run_ret ?_
  have e : p * k = Rat.divInt (p.num * k) p.den := by
    have := Rat.divInt_mul_divInt p.num k (d₁ := p.den) (d₂ := 1)
    rw [Rat.num_divInt_den, Int.mul_one, divInt_1] at this
    exact this
  have h1 := fraction (p.num * k) p.den (den_ne p) (hp.2.mono (by decide))
  rw [← e] at h1
  unfold startE enQ at *
  simp [at_q0, at_q1, mulOk_sz hp.1 hk (by decide), h1]
theorem over (p : Rat) (k : Int) (hk0 : k ≠ 0) (hp : SzQ 4400 p) (hk : Sz 4400 k) : callT Q.over [.p (enQ p), .p (.int k)] = some (.p (enQ (p / k))) := by
  refine callT_p rfl ?_
  unfold Q.over
  refine run_ret ?_
  have e : p / k = Rat.divInt p.num (p.den * k) := by
    have hk' : (k : Rat) ≠ 0 := by exact_mod_cast hk0
    have h1 : Rat.divInt p.num (p.den * k) * (k : Rat) = p := by
      have := Rat.divInt_mul_divInt p.num k (d₁ := p.den * k) (d₂ := 1)
      rw [divInt_1, Int.mul_one] at this
      rw [this, Rat.divInt_mul_right hk0, Rat.num_divInt_den]
    rw [← h1]
    rw [Rat.div_def, Rat.mul_assoc, Rat.mul_inv_cancel _ hk', Rat.mul_one]
    rw [h1]
  have h1 := fraction p.num (p.den * k) (Int.mul_ne_zero (den_ne p) hk0) ((hp.2.mul hk).mono (by decide))
  rw [← e] at h1
  unfold startE enQ at *
  simp [at_q0, at_q1, mulOk_sz hp.2 hk (by decide), h1]
theorem is_less (p q : Rat) (hp : SzQ 100000 p) (hq : SzQ 100000 q) : callT Q.is_less [.p (enQ p), .p (enQ q)] = some (.p (.bool (decide (p < q)))) := by
  refine callT_p rfl ?_
  unfold Q.is_less
  refine run_ret ?_
  unfold startE enQ
  simp [at_q0, at_q1, mulOk_sz hp.1 hq.2 (by decide), mulOk_sz hq.1 hp.2 (by decide), Rat.lt_iff]
theorem lesser (p q : Rat) (hp : SzQ 100000 p) (hq : SzQ 100000 q) : callT Q.lesser [.p (enQ p), .p (enQ q)] = some (.p (enQ (if q < p then q else p))) := by
  refine callT_p rfl ?_
  unfold Q.lesser runFn startE
  by_cases h : q < p <;> simp [is_less q p hq hp, h]
theorem greater (p q : Rat) (hp : SzQ 100000 p) (hq : SzQ 100000 q) : callT Q.greater [.p (enQ p), .p (enQ q)] = some (.p (enQ (if p < q then q else p))) := by
  refine callT_p rfl ?_
  unfold Q.greater runFn startE
  by_cases h : p < q <;> simp [is_less p q hp hq, h]
end B
/-! B24: costs. -/
namespace B
open PySem PySem.Spec PyProof.Rows L2 M

def dot : List Int → List Int → Int
  | p :: ps, a :: as => p * a + dot ps as
  | _, _ => 0
def enM (rows : List (List Int)) : D := .list (rows.map fun r => .list (enI r))
def costs (bk : List Buy) : List (List Int) := bk.map fun b => bk.map fun c => dot b.1 c.2
theorem zip_run : ∀ (ps as : List Int) (env : En), env.length = 4 → (∀ p ∈ ps, p.natAbs < 2 ^ 64) → lcRun (gTp (gCn (gNm 2) (gCn (gNm 3) (gNl)))) bYes (mOp mulT (mVar 2) (mVar 3)) env (zipD (enI ps) (enI as)) = some (enI ((ps.zip as).map fun q => q.1 * q.2))
  | [], _, _, _, _ => rfl
  | _ :: _, [], _, _, _ => rfl
  | p :: ps, a :: as, env, he, hp => by
    have ih := zip_run ps as env he (fun q hq => hp q (List.mem_cons_of_mem _ hq))
    have hm : mulOk p a = true := mulOk_l (hp p List.mem_cons_self)
    have e1 : zipD (enI (p :: ps)) (enI (a :: as)) = .tuple [.int p, .int a] :: zipD (enI ps) (enI as) := rfl
    rw [e1]
    simp only [lcRun]
    simp [-getElem?_pos, he, hm, ih]
    simp [enI]
theorem sum_zip : ∀ ps as : List Int, ((ps.zip as).map fun q => q.1 * q.2).sum = dot ps as
  | [], _ => rfl
  | _ :: _, [] => rfl
  | p :: ps, a :: as => by simp [dot, sum_zip ps as]
theorem cost_at (ps as : List Int) (hp : ∀ p ∈ ps, p.natAbs < 2 ^ 64) (hl : ps.length ≤ 1000) : callT Q.cost_at [.p (.tuple (enI ps)), .p (.tuple (enI as))] = some (.p (.int (dot ps as))) := by
  refine callT_p rfl ?_
  unfold Q.cost_at
  refine run_ret ?_
  have h1 := zip_run ps as [some (.p (.tuple (enI ps))), some (.p (.tuple (enI as))), none, none] rfl hp
  have hz : (enI ((ps.zip as).map fun q => q.1 * q.2)).length ≤ LIM := by
    rw [enI_length, List.length_map, List.length_zip]; unfold LIM; omega
  have hs : ∀ xs : List Int, sumT [.p (.list (enI xs))] = some (.p (.int xs.sum)) := fun xs => by
    unfold enI; simp [sumT, intsOf_map]
  have hi : iZp (mVar 0) (mVar 1) [some (.p (.tuple (enI ps))), some (.p (.tuple (enI as))), none, none] = some (zipD (enI ps) (enI as)) := rfl
  rw [show startE 4 [T.p (.tuple (enI ps)), .p (.tuple (enI as))] = [some (.p (.tuple (enI ps))), some (.p (.tuple (enI as))), none, none] from rfl]
  simp only [ev_mCall, ev_aCons, ev_mLc, hi, Option.bind_some, ev_wipe1, ev_wipe0, List.set_cons_succ, List.set_cons_zero, h1, hz, if_true, ev_aNil, Option.map_some, hs, sum_zip]

structure Priced (bk : List Buy) : Prop where
  few : bk.length ≤ 1000
  pr : ∀ b ∈ bk, b.1.length ≤ 1000 ∧ ∀ p ∈ b.1, p.natAbs < 2 ^ 64
theorem mM_app (rows : List (List Int)) (r : List Int) : T.ml (rows.map (fun r => T.p (.list (enI r))) ++ [T.p (.list (enI r))]) = .ml ((rows ++ [r]).map fun r => T.p (.list (enI r))) := by simp
theorem snap_mM (rows : List (List Int)) : (T.ml (rows.map fun r => T.p (.list (enI r)))).snap = some (enM rows) := by
  have := snaps_p (rows.map fun r => PyData.list (enI r))
  rw [List.map_map] at this
  simp only [T.snap]
  rw [show (rows.map fun r => T.p (.list (enI r))) = rows.map (T.p ∘ fun r => PyData.list (enI r)) from rfl, this]
  rfl
def accM (bk : List Buy) (i : Nat) : List T := ((bk.take i).map fun b => bk.map fun c => dot b.1 c.2).map fun r => T.p (.list (enI r))
theorem accM_succ (bk : List Buy) (i : Nat) (hi : i < bk.length) : accM bk (i + 1) = accM bk i ++ [T.p (.list (enI (bk.map fun c => dot bk[i].1 c.2)))] := by
  unfold accM
  rw [List.take_succ, List.getElem?_eq_getElem hi, Option.toList_some, List.map_append, List.map_append]
  rfl
theorem accM_len (bk : List Buy) (i : Nat) (hi : i ≤ bk.length) : (accM bk i).length = i := by
  unfold accM
  simp [hi]
theorem accM_all (bk : List Buy) : accM bk bk.length = (costs bk).map fun r => T.p (.list (enI r)) := by
  unfold accM costs
  rw [List.take_length]
theorem costs_of (bk : List Buy) (h : Priced bk) : callT Q.costs_of [.p (enBk bk)] = some (.p (enM (costs bk))) := by
  have key : Q.costs_of [.p (enBk bk)] = some (.ml ((costs bk).map fun r => T.p (.list (enI r)))) := by
    unfold Q.costs_of
    refine run_of ?_
    rw [show startE 6 [T.p (enBk bk)] = [some (.p (enBk bk)), none, none, none, none, none] from rfl]
    have L0 : 0 ≤ LIM := Nat.zero_le _
    refine oxE [some (.p (enBk bk)), some (.ml []), none, none, none, none] (by simp [L0]) ?_
    obtain ⟨e, he, o2, o3, rfl⟩ := forRun_inv (g := gTp (gCn (gNm 2) (gCn (gNm 3) (gNl)))) (mb := Q.costs_of_L1)
      (fun i e => ∃ o2 o3, e = [some (.p (enBk bk)), some (.ml (accM bk i)), o2, o3, none, none]) (bk.map enB) [some (.p (enBk bk)), some (.ml []), none, none, none, none] 0 ⟨_, _, rfl⟩ (by
        rintro i d e hd ⟨o2, o3, rfl⟩
        have hi : i < bk.length := by
          have := (List.getElem?_eq_some_iff.mp hd).1
          simpa using this
        have hd' : d = enB bk[i] := by
          simp [hi] at hd
          exact hd.symm
        subst hd'
        rw [Nat.zero_add]
        have hp := h.pr _ (List.getElem_mem hi)
        have hf := h.few
        have l1 : lcRun (gTp (gCn (gNm 4) (gCn (gNm 5) (gNl)))) bYes (mCall (callT Q.cost_at) (aCons (mVar 2) (aCons (mVar 5) (aNil)))) [some (.p (enBk bk)), some (.ml (accM bk i)), some (.p (.tuple (enI bk[i].1))), some (.p (.tuple (enI bk[i].2))), none, none] (bk.map enB) = some (enI (bk.map fun c => dot bk[i].1 c.2)) := by
          have := lcRun_map (g := gTp (gCn (gNm 4) (gCn (gNm 5) (gNl)))) (tt := bYes) (me := mCall (callT Q.cost_at) (aCons (mVar 2) (aCons (mVar 5) (aNil)))) (env := [some (.p (enBk bk)), some (.ml (accM bk i)), some (.p (.tuple (enI bk[i].1))), some (.p (.tuple (enI bk[i].2))), none, none]) enB (fun c => .int (dot bk[i].1 c.2)) bk (fun c hc => ⟨_, rfl, rfl, by simp [cost_at bk[i].1 c.2 hp.2 hp.1]⟩)
          rw [this]
          unfold enI
          rw [List.map_map]
          rfl
        refine ⟨[some (.p (enBk bk)), some (.ml (accM bk i)), some (.p (.tuple (enI bk[i].1))), some (.p (.tuple (enI bk[i].2))), none, none], [some (.p (enBk bk)), some (.ml (accM bk (i + 1))), some (.p (.tuple (enI bk[i].1))), some (.p (.tuple (enI bk[i].2))), none, none], rfl, .inl ?_, _, _, rfl⟩
        unfold Q.costs_of_L1
        have hq : bk.length ≤ LIM := by unfold LIM; omega
        have hq2 : (accM bk i).length < LIM := by rw [accM_len bk i (by omega)]; unfold LIM; omega
        rw [accM_succ bk i hi]
        have hany : (T.p (enBk bk)).any? = some (bk.map enB) := rfl
        simp [hany, l1, enI_length, hq, hq2])
    refine oxE _ (by rw [← he]; rfl) ?_
    rw [List.length_map, Nat.zero_add, accM_all]
    exact ⟨_, rfl, rfl⟩
  exact callT_snap rfl key (snap_mM _)

/-! the law's own costs -/
theorem dot_take : ∀ (ps as : List Int) (i : Nat) (hp : i < ps.length) (ha : i < as.length), dot (ps.take (i + 1)) as = dot (ps.take i) as + ps[i] * as[i]
  | p :: ps, a :: as, 0, _, _ => by simp [dot]
  | p :: ps, a :: as, i + 1, hp, ha => by
    have := dot_take ps as i (by simpa using hp) (by simpa using ha)
    simp only [List.take_succ_cons, dot, this, List.getElem_cons_succ]
    omega
theorem law_cost (ps as : List Int) (hp : ∀ p ∈ ps, p.natAbs < 2 ^ 64) (hl : ps.length ≤ 1000) (hle : ps.length ≤ as.length) : callT Q.law_cost [.p (.tuple (enI ps)), .p (.tuple (enI as))] = some (.p (.int (dot ps as))) := by
  refine callT_p rfl ?_
  unfold Q.law_cost
  refine run_of ?_
  rw [show startE 4 [T.p (.tuple (enI ps)), .p (.tuple (enI as))] = [some (.p (.tuple (enI ps))), some (.p (.tuple (enI as))), none, none] from rfl]
  refine oxE [some (.p (.tuple (enI ps))), some (.p (.tuple (enI as))), some (.p (.int 0)), none] (by simp) ?_
  obtain ⟨e, he, o3, rfl⟩ := forRun_inv (g := gNm 3) (mb := Q.law_cost_L1) (fun i e => ∃ o3, e = [some (.p (.tuple (enI ps))), some (.p (.tuple (enI as))), some (.p (.int (dot (ps.take i) as))), o3]) (rangeD 0 ps.length) [some (.p (.tuple (enI ps))), some (.p (.tuple (enI as))), some (.p (.int 0)), none] 0 ⟨none, by simp [dot]⟩ (by
    rintro i d e hd ⟨o3, rfl⟩
    have hi : i < ps.length := by
      have := (List.getElem?_eq_some_iff.mp hd).1
      simpa [rangeD] using this
    have hd' : d = .int i := by
      simp [rangeD, hi] at hd
      exact hd.symm
    subst hd'
    rw [Nat.zero_add]
    have a1 : atI (enI ps) (i : Int) = some (.int ps[i]) := by
      rw [atI_lt (by omega) (by rw [enI_length]; omega)]; simp [enI]
    have a2 : atI (enI as) (i : Int) = some (.int (as[i]'(by omega))) := by
      rw [atI_lt (by omega) (by rw [enI_length]; omega)]; simp [enI]
    have hm : mulOk ps[i] (as[i]'(by omega)) = true := mulOk_l (hp _ (List.getElem_mem hi))
    refine ⟨_, [some (.p (.tuple (enI ps))), some (.p (.tuple (enI as))), some (.p (.int (dot (ps.take (i + 1)) as))), some (.p (.int i))], rfl, .inl ?_, _, rfl⟩
    unfold Q.law_cost_L1
    rw [dot_take ps as i hi (by omega)]
    simp [a1, a2, hm])
  have hs : smallI (ps.length : Int) := by unfold smallI; omega
  refine oxE _ (by rw [← he]; simp [enI_length, hs]) ?_
  have hz : (rangeD 0 (ps.length : Int)).length = ps.length := by simp [rangeD]
  rw [hz, Nat.zero_add, List.take_length]
  exact ⟨_, rfl, rfl⟩
theorem law_a_costs (bk : List Buy) (h : Priced bk) (hle : ∀ b ∈ bk, ∀ c ∈ bk, b.1.length ≤ c.2.length) : callT Q.law_a_costs [.p (enBk bk)] = some (.p (enM (costs bk))) := by
  have key : Q.law_a_costs [.p (enBk bk)] = some (.ml ((costs bk).map fun r => T.p (.list (enI r)))) := by
    unfold Q.law_a_costs
    refine run_of ?_
    rw [show startE 5 [T.p (enBk bk)] = [some (.p (enBk bk)), none, none, none, none] from rfl]
    have L0 : 0 ≤ LIM := Nat.zero_le _
    refine oxE [some (.p (enBk bk)), some (.ml []), none, none, none] (by simp [L0]) ?_
    obtain ⟨e, he, o2, o3, rfl⟩ := forRun_inv (g := gTp (gCn (gNm 2) (gCn (gNm 3) (gNl)))) (mb := Q.law_a_costs_L1)
      (fun i e => ∃ o2 o3, e = [some (.p (enBk bk)), some (.ml (accM bk i)), o2, o3, none]) (bk.map enB) [some (.p (enBk bk)), some (.ml []), none, none, none] 0 ⟨_, _, rfl⟩ (by
        rintro i d e hd ⟨o2, o3, rfl⟩
        have hi : i < bk.length := by
          have := (List.getElem?_eq_some_iff.mp hd).1
          simpa using this
        have hd' : d = enB bk[i] := by
          simp [hi] at hd
          exact hd.symm
        subst hd'
        rw [Nat.zero_add]
        have hp := h.pr _ (List.getElem_mem hi)
        have hf := h.few
        have l1 : lcRun (gNm 4) bYes (mCall (callT Q.law_cost) (aCons (mVar 2) (aCons (mOp idxT (mVar 4) (mC (.int 1))) (aNil)))) [some (.p (enBk bk)), some (.ml (accM bk i)), some (.p (.tuple (enI bk[i].1))), some (.p (.tuple (enI bk[i].2))), none] (bk.map enB) = some (enI (bk.map fun c => dot bk[i].1 c.2)) := by
          have := lcRun_map (g := gNm 4) (tt := bYes) (me := mCall (callT Q.law_cost) (aCons (mVar 2) (aCons (mOp idxT (mVar 4) (mC (.int 1))) (aNil)))) (env := [some (.p (enBk bk)), some (.ml (accM bk i)), some (.p (.tuple (enI bk[i].1))), some (.p (.tuple (enI bk[i].2))), none]) enB (fun c => .int (dot bk[i].1 c.2)) bk (fun c hc => ⟨_, rfl, rfl, by
            have h1 : atI [PyData.tuple (enI c.1), PyData.tuple (enI c.2)] 1 = some (.tuple (enI c.2)) := rfl
            simp [enB, h1, law_cost bk[i].1 c.2 hp.2 hp.1 (hle _ (List.getElem_mem hi) c hc)]⟩)
          rw [this]
          unfold enI
          rw [List.map_map]
          rfl
        refine ⟨[some (.p (enBk bk)), some (.ml (accM bk i)), some (.p (.tuple (enI bk[i].1))), some (.p (.tuple (enI bk[i].2))), none], [some (.p (enBk bk)), some (.ml (accM bk (i + 1))), some (.p (.tuple (enI bk[i].1))), some (.p (.tuple (enI bk[i].2))), none], rfl, .inl ?_, _, _, rfl⟩
        unfold Q.law_a_costs_L1
        have hq : bk.length ≤ LIM := by unfold LIM; omega
        have hq2 : (accM bk i).length < LIM := by rw [accM_len bk i (by omega)]; unfold LIM; omega
        rw [accM_succ bk i hi]
        have hany : (T.p (enBk bk)).any? = some (bk.map enB) := rfl
        simp [hany, l1, enI_length, hq, hq2])
    refine oxE _ (by rw [← he]; rfl) ?_
    rw [List.length_map, Nat.zero_add, accM_all]
    exact ⟨_, rfl, rfl⟩
  exact callT_snap rfl key (snap_mM _)
end B
/-! B25: matrices by functions; least_through. -/
namespace B
open PySem PySem.Spec PyProof.Rows L2 M

abbrev MF := Nat → Nat → Rat
def rowQ (n : Nat) (g : Nat → Rat) : List D := (List.range n).map fun j => enQ (g j)
def matQ (n : Nat) (f : MF) : D := .list ((List.range n).map fun i => .list (rowQ n (f i)))
def rowT (n : Nat) (g : Nat → Rat) : T := .ml ((List.range n).map fun j => T.p (enQ (g j)))
def matT (n : Nat) (f : MF) : T := .ml ((List.range n).map fun i => rowT n (f i))
def up2 (f : MF) (a b : Nat) (v : Rat) : MF := fun i j => if i = a ∧ j = b then v else f i j
theorem range_set {α : Type} (n a : Nat) (g : Nat → α) (x : α) : ((List.range n).map g).set a x = (List.range n).map fun i => if i = a then x else g i := by
  apply List.ext_getElem?
  intro i
  by_cases hi : i < n
  · by_cases h : i = a
    · subst h
      rw [List.getElem?_set_self' ]
      simp [hi]
    · rw [List.getElem?_set_ne (fun z => h z.symm)]
      simp [hi, h]
  · have h1 : ((List.range n).map g).length ≤ i := by simp; omega
    rw [List.getElem?_eq_none (by simp; omega), List.getElem?_eq_none (by simp; omega)]
theorem at_range {α : Type} {n i : Nat} {g : Nat → α} (hi : i < n) : atI ((List.range n).map g) (i : Int) = some (g i) := by
  rw [atI_lt (by omega) (by simp; omega)]
  simp
theorem ix_range {α : Type} {n i : Nat} {g : Nat → α} (hi : i < n) : ixN ((List.range n).map g).length (i : Int) = some i := by
  rw [ixN_of (by omega) (by simp; omega)]
  simp
theorem at_mat {n i : Nat} {f : MF} (hi : i < n) : atI ((List.range n).map fun i => PyData.list (rowQ n (f i))) (i : Int) = some (.list (rowQ n (f i))) := at_range hi
theorem at_row {n j : Nat} {g : Nat → Rat} (hj : j < n) : atI (rowQ n g) (j : Int) = some (enQ (g j)) := at_range hj
theorem at_matT {n i : Nat} {f : MF} (hi : i < n) : atI ((List.range n).map fun i => rowT n (f i)) (i : Int) = some (rowT n (f i)) := at_range hi
theorem ix_rowT {n j : Nat} {g : Nat → Rat} (hj : j < n) : idxT (rowT n g) (.p (.int j)) = some (.p (enQ (g j))) := by
  unfold rowT
  rw [ev_ixm]
  exact at_range hj
theorem ix_matT {n i : Nat} {f : MF} (hi : i < n) : idxT (matT n f) (.p (.int i)) = some (rowT n (f i)) := by
  unfold matT
  rw [ev_ixm]
  exact at_range hi
@[simp] theorem strip_matT {n : Nat} {f : MF} : (matT n f).strip = matT n f := rfl
@[simp] theorem strip_rowT {n : Nat} {g : Nat → Rat} : (rowT n g).strip = rowT n g := rfl
@[simp] theorem wrap_matT {n : Nat} {f : MF} {u : T} : (matT n f).wrap u = u := rfl
@[simp] theorem wrap_rowT {n : Nat} {g : Nat → Rat} {u : T} : (rowT n g).wrap u = u := rfl
theorem snap_rowT (n : Nat) (g : Nat → Rat) : (rowT n g).snap = some (.list (rowQ n g)) := by
  have := snaps_p (rowQ n g)
  unfold rowQ at this
  rw [List.map_map] at this
  unfold rowT
  simp only [T.snap]
  rw [show ((List.range n).map fun j => T.p (enQ (g j))) = (List.range n).map (T.p ∘ fun j => enQ (g j)) from rfl, this]
  rfl
theorem snaps_rows (n : Nat) (f : MF) : ∀ l : List Nat, snaps (l.map fun i => rowT n (f i)) = some (l.map fun i => PyData.list (rowQ n (f i)))
  | [] => by simp [snaps]
  | i :: r => by simp [snaps, snap_rowT, snaps_rows n f r]
theorem snap_matT (n : Nat) (f : MF) : (matT n f).snap = some (matQ n f) := by
  unfold matT matQ
  simp only [T.snap, snaps_rows, Option.map_some]
/-- told[a][b] = v -/
theorem set_mat {n a b : Nat} {f : MF} {v : Rat} (ha : a < n) (hb : b < n) (env : En) (i ia ib iv : Nat) (e0 : env[i]? = some (some (matT n f))) (ea : env[ia]? = some (some (.p (.int a)))) (eb : env[ib]? = some (some (.p (.int b)))) (ev : env[iv]? = some (some (.p (enQ v)))) :
    sSetIx (pIx (pVar i) (mVar ia)) (mVar ib) (mVar iv) env = some (.nx (env.set i (some (matT n (up2 f a b v))))) := by
  have h1 : ixN ((List.range n).map fun i => rowT n (f i)).length (a : Int) = some a := ix_range ha
  have h2 : ixN ((List.range n).map fun j => T.p (enQ (f a j))).length (b : Int) = some b := ix_range hb
  have h3 : ((List.range n).map fun j => T.p (enQ (f a j))).set b (T.p (enQ v)) = (List.range n).map fun j => T.p (enQ (up2 f a b v a j)) := by
    rw [range_set]
    apply List.map_congr_left
    intro j _
    unfold up2
    by_cases h : j = b <;> simp [h]
  have h4 : ((List.range n).map fun i => rowT n (f i)).set a (rowT n (up2 f a b v a)) = (List.range n).map fun i => rowT n (up2 f a b v i) := by
    rw [range_set]
    apply List.map_congr_left
    intro i _
    by_cases h : i = a
    · subst h; simp
    · rw [if_neg h]
      unfold rowT
      congr 1
      apply List.map_congr_left
      intro j _
      unfold up2
      simp [h]
  have h5 : ((List.range n).map fun i => rowT n (f i))[a]? = some (rowT n (f a)) := by simp [ha]
  have h6 : setN ((List.range n).map fun j => T.p (enQ (f a j))) (b : Int) (enQ v) = some ((List.range n).map fun j => T.p (enQ (up2 f a b v a j))) := by
    unfold setN
    rw [h2, Option.map_some, h3]
  simp only [matT] at *
  simp [-getElem?_pos, -List.length_map, -List.length_range, e0, ea, eb, ev, h1, h5]
  simp only [rowT] at h4 ⊢
  simp [-getElem?_pos, -List.length_map, -List.length_range, h6, h4]
def fwv (f : MF) (by' i j : Nat) : Rat := if f i by' < f by' j then f by' j else f i by'
def fwc (f : MF) (by' i j : Nat) : Prop := i ≠ j ∧ by' ≠ i ∧ by' ≠ j ∧ fwv f by' i j < f i j
instance (f : MF) (b i j : Nat) : Decidable (fwc f b i j) := by unfold fwc; infer_instance
def phase (f : MF) (by' : Nat) : MF := fun i j => if fwc f by' i j then fwv f by' i j else f i j
/-- after the pairs ahead of (a, b) -/
def half (f : MF) (by' a b : Nat) : MF := fun i j => if i < a ∨ (i = a ∧ j < b) then phase f by' i j else f i j
theorem phase_by {f : MF} {by' i : Nat} : phase f by' i by' = f i by' := by
  unfold phase; rw [if_neg]; rintro ⟨_, _, h, _⟩; exact h rfl
theorem phase_by' {f : MF} {by' j : Nat} : phase f by' by' j = f by' j := by
  unfold phase; rw [if_neg]; rintro ⟨_, h, _, _⟩; exact h rfl
theorem half_by {f : MF} {by' a b i : Nat} : half f by' a b i by' = f i by' := by
  unfold half; split <;> simp [phase_by]
theorem half_by' {f : MF} {by' a b j : Nat} : half f by' a b by' j = f by' j := by
  unfold half; split <;> simp [phase_by']
theorem half_at {f : MF} {by' a b : Nat} : half f by' a b a b = f a b := by
  unfold half; rw [if_neg]; omega

theorem matT_congr {n : Nat} {f g : MF} (h : ∀ i j, i < n → j < n → f i j = g i j) : matT n f = matT n g := by
  unfold matT rowT
  congr 1
  apply List.map_congr_left
  intro i hi
  congr 1
  apply List.map_congr_left
  intro j hj
  rw [h i j (List.mem_range.mp hi) (List.mem_range.mp hj)]
def Szm (n : Nat) (f : MF) : Prop := ∀ i j, i < n → j < n → SzQ 1000 (f i j)
theorem fwv_sz {n : Nat} {f : MF} (h : Szm n f) {b i j : Nat} (hb : b < n) (hi : i < n) (hj : j < n) : SzQ 1000 (fwv f b i j) := by
  unfold fwv
  split
  · exact h b j hb hj
  · exact h i b hi hb
theorem phase_sz {n : Nat} {f : MF} (h : Szm n f) {b : Nat} (hb : b < n) : Szm n (phase f b) := by
  intro i j hi hj
  unfold phase
  split
  · exact fwv_sz h hb hi hj
  · exact h i j hi hj
def ltEnv (sh : T) (n : Nat) (f : MF) (o3 o4 o5 o6 : Option T) : En := [some sh, some (.p (.list (rangeD 0 n))), some (matT n f), o3, o4, o5, o6, none]
theorem half_step {f : MF} {by' a b : Nat} : half f by' a (b + 1) = if fwc f by' a b then up2 (half f by' a b) a b (fwv f by' a b) else half f by' a b := by
  funext i j
  unfold half up2
  by_cases h : i = a ∧ j = b
  · obtain ⟨rfl, rfl⟩ := h
    have h1 : i < i ∨ i = i ∧ j < j + 1 := .inr ⟨rfl, by omega⟩
    rw [if_pos h1]
    by_cases hc : fwc f by' i j
    · simp [hc, phase]
    · have h2 : ¬ (i < i ∨ i = i ∧ j < j) := by omega
      simp [hc, phase]
  · have e : (i < a ∨ i = a ∧ j < b + 1) ↔ (i < a ∨ i = a ∧ j < b) := by omega
    by_cases hc : fwc f by' a b
    · simp only [hc, if_true, h, if_false, e]
    · simp only [hc, if_false, e]
theorem lt_L1 {n : Nat} {f : MF} (hf : Szm n f) {by' a b : Nat} (hby : by' < n) (ha : a < n) (hb : b < n) (sh : T) (o6 : Option T) :
    ∃ o6', Q.least_through_L1 (ltEnv sh n (half f by' a b) (some (.p (.int by'))) (some (.p (.int a))) (some (.p (.int b))) o6) = some (.nx (ltEnv sh n (half f by' a (b + 1)) (some (.p (.int by'))) (some (.p (.int a))) (some (.p (.int b))) o6')) := by
  refine ⟨some (.p (enQ (fwv f by' a b))), ?_⟩
  have s1 := (hf a by' ha hby).mono (show 1000 ≤ 100000 by decide)
  have s2 := (hf by' b hby hb).mono (show 1000 ≤ 100000 by decide)
  have s3 := (hf a b ha hb).mono (show 1000 ≤ 100000 by decide)
  have s4 := (fwv_sz hf hby ha hb).mono (show 1000 ≤ 100000 by decide)
  have g1 := greater (f a by') (f by' b) s1 s2
  have r1 : idxT (matT n (half f by' a b)) (.p (.int a)) = some (rowT n (half f by' a b a)) := ix_matT ha
  have r2 : idxT (matT n (half f by' a b)) (.p (.int by')) = some (rowT n (half f by' a b by')) := ix_matT hby
  have r3 : idxT (rowT n (half f by' a b a)) (.p (.int by')) = some (.p (enQ (f a by'))) := by rw [ix_rowT hby, half_by]
  have r4 : idxT (rowT n (half f by' a b by')) (.p (.int b)) = some (.p (enQ (f by' b))) := by rw [ix_rowT hb, half_by']
  have r5 : idxT (rowT n (half f by' a b a)) (.p (.int b)) = some (.p (enQ (f a b))) := by rw [ix_rowT hb, half_at]
  have l1 := is_less (fwv f by' a b) (f a b) s4 s3
  have L2' : 2 ≤ LIM := by decide
  unfold Q.least_through_L1
  rw [stepS (e := ltEnv sh n (half f by' a b) (some (.p (.int by'))) (some (.p (.int a))) (some (.p (.int b))) (some (.p (enQ (fwv f by' a b))))) (by
    unfold ltEnv
    simp only [ev_sSet, ev_mCall, ev_aCons, ev_mOp, ev_mVar, ev_aNil]
    simp [r1, r2, r3, r4, g1, fwv])]
  have hni : notInT (.p (.int by')) (.p (.tuple [.int a, .int b])) = some (.p (.bool (!(decide (by' = a) || decide (by' = b))))) := by
    have := notIn_t [(a : Int), (b : Int)] (by' : Int)
    rw [show PyData.tuple (enI [(a : Int), (b : Int)]) = .tuple [.int a, .int b] from rfl] at this
    rw [this]
    congr 3
    rw [Bool.eq_iff_iff]
    simp
    omega
  rw [half_step]
  by_cases c1 : a = b
  · have hc : ¬ fwc f by' a b := fun z => z.1 c1
    rw [if_neg hc]
    unfold ltEnv
    simp [c1]
  · have c1' : ¬ (a : Int) = (b : Int) := by omega
    by_cases c2 : by' = a ∨ by' = b
    · have hc : ¬ fwc f by' a b := fun z => c2.elim z.2.1 z.2.2.1
      rw [if_neg hc]
      have c2' : (decide (by' = a) || decide (by' = b)) = true := by simpa using c2
      rw [c2'] at hni
      unfold ltEnv
      simp [c1', L2', hni]
    · have c2' : (decide (by' = a) || decide (by' = b)) = false := by simpa using c2
      rw [c2'] at hni
      by_cases c3 : fwv f by' a b < f a b
      · have hc : fwc f by' a b := ⟨c1, fun z => c2 (.inl z), fun z => c2 (.inr z), c3⟩
        rw [if_pos hc]
        have hset := set_mat (v := fwv f by' a b) ha hb (ltEnv sh n (half f by' a b) (some (.p (.int by'))) (some (.p (.int a))) (some (.p (.int b))) (some (.p (enQ (fwv f by' a b))))) 2 4 5 6 rfl rfl rfl rfl
        rw [ev_sIf, show bAnd (bOp M.neT (mVar 4) (mVar 5)) (bAnd (bOp notInT (mVar 3) (mTup (aCons (mVar 4) (aCons (mVar 5) aNil)))) (bVal (mCall (callT Q.is_less) (aCons (mVar 6) (aCons (mOp idxT (mOp idxT (mVar 2) (mVar 4)) (mVar 5)) aNil))))) (ltEnv sh n (half f by' a b) (some (.p (.int by'))) (some (.p (.int a))) (some (.p (.int b))) (some (.p (enQ (fwv f by' a b))))) = some true by
          unfold ltEnv
          simp [c1', L2', hni, r1, r5, l1, c3]]
        rw [Option.bind_some, if_pos rfl, hset]
        rfl
      · have hc : ¬ fwc f by' a b := fun z => c3 z.2.2.2
        rw [if_neg hc]
        unfold ltEnv
        simp [c1', L2', hni, r1, r5, l1, c3]
end B
/-! B21: way_between. -/
namespace B
open PySem PySem.Spec PyProof.Rows L2 M

abbrev Par := List (Nat × Option Nat)
def enO : Option Nat → D
  | none => .none
  | some h => .int h
def enP (p : Nat × Option Nat) : Key × D := (.inl (p.1 : Int), enO p.2)
def natI (w : List Nat) : List Int := w.map fun (k : Nat) => (k : Int)
def mN (w : List Nat) : T := mI (natI w)
theorem valD_en (ks : Par) (k : Nat) : valD (ks.map enP) (.inl (k : Int)) = (ks.find? fun p => decide (p.1 = k)).map fun p => enO p.2 := by
  unfold valD
  induction ks with
  | nil => rfl
  | cons p r ih =>
    simp only [List.map_cons, List.find?_cons]
    by_cases h : p.1 = k
    · have : (enP p).1 = (.inl (k : Int) : Key) := by simp [enP, h]
      simp [this, h]; rfl
    · have : ¬ (enP p).1 = (.inl (k : Int) : Key) := by
        simp only [enP]
        intro z
        exact h (by injection z with z; omega)
      simp [this, h]
      simpa using ih
theorem find_some {ks : Par} {k : Nat} : ((ks.find? fun p => decide (p.1 = k)).isSome = true) ↔ k ∈ ks.map (·.1) := by
  simp [List.find?_isSome]
theorem isSome_en (ks : Par) (k : Nat) : (valD (ks.map enP) (.inl (k : Int))).isSome = decide (k ∈ ks.map (·.1)) := by
  rw [valD_en, Option.isSome_map, Bool.eq_iff_iff, find_some]
  simp
theorem putD_en {ks : Par} {k h : Nat} (hk : k ∉ ks.map (·.1)) : putD (ks.map enP) (.inl (k : Int)) (.int h) = (ks ++ [(k, some h)]).map enP := by
  unfold putD
  rw [if_neg]
  · simp [enP, enO]
  · intro z
    obtain ⟨q, hq, e⟩ := List.any_eq_true.mp z
    obtain ⟨p, hp, rfl⟩ := List.mem_map.mp hq
    have : p.1 = k := by
      have e' := of_decide_eq_true e
      simp only [enP] at e'
      injection e' with e'; omega
    exact hk (this ▸ List.mem_map_of_mem hp)
/-- what the search has found -/
inductive Tree (W : Nat → Nat → Prop) (one : Nat) : Par → Prop
  | root : Tree W one [(one, none)]
  | snoc {ks : Par} {h k : Nat} : Tree W one ks → h ∈ ks.map (·.1) → k ∉ ks.map (·.1) → W h k → Tree W one (ks ++ [(k, some h)])
section
variable {W : Nat → Nat → Prop} {one : Nat}
theorem Tree.nodup {ks : Par} (t : Tree W one ks) : (ks.map (·.1)).Nodup := by
  induction t with
  | root => simp
  | snoc t h1 h2 h3 ih =>
    rw [List.map_append]
    refine List.nodup_append.mpr ⟨ih, by simp, fun a ha b hb => ?_⟩
    intro e
    subst e
    simp at hb
    subst hb
    exact h2 ha
theorem Tree.one_mem {ks : Par} (t : Tree W one ks) : one ∈ ks.map (·.1) := by
  induction t with
  | root => simp
  | snoc t h1 h2 h3 ih => rw [List.map_append]; exact List.mem_append_left _ ih
/-- a way: each step is open -/
def Steps (W : Nat → Nat → Prop) : List Nat → Prop
  | [] => True
  | [_] => True
  | a :: b :: r => W a b ∧ Steps W (b :: r)
theorem Steps.snoc : ∀ {p : List Nat} {h k : Nat}, Steps W p → p.getLast? = some h → W h k → Steps W (p ++ [k])
  | [], _, _, _, e, _ => by simp at e
  | [a], _, _, _, e, w => by simp at e; subst e; exact ⟨w, trivial⟩
  | a :: b :: r, h, k, s, e, w => ⟨s.1, Steps.snoc (p := b :: r) s.2 (by simpa using e) w⟩
structure Way (W : Nat → Nat → Prop) (one other : Nat) (p : List Nat) : Prop where
  hd : p.head? = some one
  lst : p.getLast? = some other
  st : Steps W p
  nd : p.Nodup
theorem find_mid {ks more : Par} {k : Nat} {o : Option Nat} (h : k ∉ ks.map (·.1)) : ((ks ++ (k, o) :: more).find? fun p => decide (p.1 = k)) = some (k, o) := by
  induction ks with
  | nil => simp
  | cons p r ih =>
    have h1 : p.1 ≠ k := fun e => h (by simp [e])
    have h2 : k ∉ r.map (·.1) := fun e => h (by simp at e ⊢; exact .inr e)
    simp [h1]
    simpa using ih h2
theorem natI_cons (k : Nat) (w : List Nat) : natI (k :: w) = (k : Int) :: natI w := rfl
theorem at_head (k : Nat) (w : List Nat) : atI ((enI (natI (k :: w))).map T.p) 0 = some (.p (.int k)) := by
  rw [atI_lt (by decide) (by simp [natI, enI])]
  rfl
theorem ins_head (k h : Nat) (w : List Nat) (hl : (k :: w).length < LIM) : insN ((enI (natI (k :: w))).map T.p) 0 (.int h) = some ((enI (natI (h :: k :: w))).map T.p) := by
  unfold insN
  rw [if_pos ⟨by decide, by decide, by simpa [natI, enI] using hl⟩]
  rfl
def tailEnv (ways : T) (one other : Nat) (ks : Par) (o4 o5 o6 : Option T) (told : List Nat) : En := [some ways, some (.p (.int one)), some (.p (.int other)), some (.md (ks.map enP)), o4, o5, o6, some (mN told)]
/-- the way back -/
theorem back (ways : T) (other : Nat) (o4 o5 o6 : Option T) (ksF : Par) (hF : (ksF.map (·.1)).Nodup) {ks : Par} (t : Tree W one ks) : ∀ (more : Par), ksF = ks ++ more → ∀ (c : Nat) (tl : List Nat) (fuel : Nat), c ∈ ks.map (·.1) → ks.length ≤ fuel → tl.length + ks.length < 1000 →
    ∃ p, whileRun (bOp M.neT (mOp idxT (mVar 7) (mC (.int 0))) (mVar 1)) Q.way_between_L3 fuel (tailEnv ways one other ksF o4 o5 o6 (c :: tl)) = some (.nx (tailEnv ways one other ksF o4 o5 o6 (p ++ tl))) ∧ Way W one c p ∧ ∀ x ∈ p, x ∈ ks.map (·.1) := by
  have hend : ∀ (tl : List Nat) (fuel : Nat), 1 ≤ fuel → whileRun (bOp M.neT (mOp idxT (mVar 7) (mC (.int 0))) (mVar 1)) Q.way_between_L3 fuel (tailEnv ways one other ksF o4 o5 o6 (one :: tl)) = some (.nx (tailEnv ways one other ksF o4 o5 o6 (one :: tl))) := by
    intro tl fuel hf
    obtain ⟨m, rfl⟩ : ∃ m, fuel = m + 1 := ⟨fuel - 1, by omega⟩
    have := at_head one tl
    unfold tailEnv mN mI
    simp [whileRun, this]
  induction t with
  | root =>
    intro more hm c tl fuel hc hf hlen
    have hc' : c = one := by simpa using hc
    subst hc'
    exact ⟨[c], hend tl fuel (by simpa using hf), ⟨rfl, rfl, trivial, by simp⟩, by simp⟩
  | @snoc ks h k t h1 h2 h3 ih =>
    intro more hm c tl fuel hc hf hlen
    rw [List.length_append, List.length_singleton] at hf hlen
    by_cases hck : c ∈ ks.map (·.1)
    · obtain ⟨p, a1, a2, a3⟩ := ih ((k, some h) :: more) (by rw [hm]; simp) c tl fuel hck (by omega) (by omega)
      exact ⟨p, a1, a2, fun x hx => by rw [List.map_append]; exact List.mem_append_left _ (a3 x hx)⟩
    · have hcE : c = k := by
        rw [List.map_append, List.mem_append] at hc
        rcases hc with z | z
        · exact absurd z hck
        · simpa using z
      subst hcE
      by_cases hone : c = one
      · subst hone
        exact absurd t.one_mem hck
      · obtain ⟨m, rfl⟩ : ∃ m, fuel = m + 1 := ⟨fuel - 1, by omega⟩
        obtain ⟨p, a1, a2, a3⟩ := ih ((c, some h) :: more) (by rw [hm]; simp) h (c :: tl) m h1 (by omega) (by simp; omega)
        have hv : valD (ksF.map enP) (.inl (c : Int)) = some (.int h) := by
          rw [valD_en, hm, List.append_assoc, List.singleton_append, find_mid h2]
          rfl
        have hone' : ¬ (c : Int) = (one : Int) := by omega
        have hb : Q.way_between_L3 (tailEnv ways one other ksF o4 o5 o6 (c :: tl)) = some (.nx (tailEnv ways one other ksF o4 o5 o6 (h :: c :: tl))) := by
          have e1 := at_head c tl
          have e2 := ins_head c h tl (by simp; unfold LIM; omega)
          unfold Q.way_between_L3 tailEnv mN mI
          simp [dGetT, T.dct?, keyOf?, e1, hv, e2]
        refine ⟨p ++ [c], ?_, ?_, ?_⟩
        · have e1 := at_head c tl
          rw [List.append_assoc, List.singleton_append, ← a1]
          have hcond : bOp M.neT (mOp idxT (mVar 7) (mC (.int 0))) (mVar 1) (tailEnv ways one other ksF o4 o5 o6 (c :: tl)) = some true := by
            unfold tailEnv mN mI
            simp [e1, hone']
          rw [whileRun, hcond, Option.bind_some, if_pos rfl, hb]
          rfl
        · refine ⟨?_, by simp, a2.st.snoc a2.lst h3, ?_⟩
          · cases p with
            | nil => have := a2.hd; simp at this
            | cons x r => have := a2.hd; simpa using this
          · refine List.nodup_append.mpr ⟨a2.nd, by simp, fun x hx y hy => ?_⟩
            have : y = c := by simpa using hy
            subst this
            intro e; subst e; exact h2 (a3 _ hx)
        · intro x hx
          rw [List.map_append]
          rcases List.mem_append.mp hx with z | z
          · exact List.mem_append_left _ (a3 x z)
          · exact List.mem_append_right _ (by simpa using z)
end
end B
/-! B22: way_between, the search. -/
namespace B
open PySem PySem.Spec PyProof.Rows L2 M

def enW (rows : List (List Bool)) : D := .list (rows.map fun r => .list (enBl r))
def wv (rows : List (List Bool)) (a b : Nat) : Prop := ((rows.getD a []).getD b false) = true
instance (rows : List (List Bool)) (a b : Nat) : Decidable (wv rows a b) := by unfold wv; infer_instance
structure SqW (rows : List (List Bool)) : Prop where
  sq : ∀ r ∈ rows, r.length = rows.length
  few : rows.length ≤ 100
theorem wv_lt {rows : List (List Bool)} (h : SqW rows) {a b : Nat} (w : wv rows a b) : a < rows.length ∧ b < rows.length := by
  unfold wv at w
  by_cases ha : a < rows.length
  · refine ⟨ha, ?_⟩
    rw [List.getD_eq_getElem?_getD, List.getD_eq_getElem?_getD, List.getElem?_eq_getElem ha] at w
    by_cases hb : b < rows[a].length
    · have := h.sq _ (List.getElem_mem ha); omega
    · simp [List.getElem?_eq_none (Nat.le_of_not_lt hb)] at w
  · rw [List.getD_eq_getElem?_getD, List.getD_eq_getElem?_getD, List.getElem?_eq_none (Nat.le_of_not_lt ha)] at w
    simp at w
theorem way_at {rows : List (List Bool)} (h : SqW rows) {a b : Nat} (ha : a < rows.length) (hb : b < rows.length) : ∃ r, atI (rows.map fun r => PyData.list (enBl r)) (a : Int) = some (.list (enBl r)) ∧ atI (enBl r) (b : Int) = some (.bool (decide (wv rows a b))) := by
  refine ⟨rows[a], ?_, ?_⟩
  · rw [atI_lt (by omega) (by simp; omega)]
    simp
  · have hl := h.sq _ (List.getElem_mem ha)
    unfold enBl
    rw [atI_lt (by omega) (by simp; omega)]
    simp only [List.getElem_map, Int.toNat_natCast]
    congr 2
    rw [Bool.eq_iff_iff]
    unfold wv
    simp [List.getD_eq_getElem?_getD, ha, show b < rows[a].length by omega]
inductive Reach (W : Nat → Nat → Prop) (one : Nat) : Nat → Prop
  | refl : Reach W one one
  | step {h k : Nat} : Reach W one h → W h k → Reach W one k

def bEnv (rows : List (List Bool)) (one other : Nat) (ks : Par) (wait : List Nat) (o5 o6 : Option T) : En := [some (.p (enW rows)), some (.p (.int one)), some (.p (.int other)), some (.md (ks.map enP)), some (mN wait), o5, o6, none]
structure BJ (rows : List (List Bool)) (one : Nat) (ks : Par) (wait : List Nat) : Prop where
  tr : Tree (wv rows) one ks
  lt : ∀ k ∈ ks.map (·.1), k < rows.length
  wk : ∀ k ∈ wait, k ∈ ks.map (·.1)
  cl : ∀ k ∈ ks.map (·.1), k ∉ wait → ∀ j, wv rows k j → j ∈ ks.map (·.1)
theorem nodup_le {l : List Nat} {n : Nat} (h : l.Nodup) (hl : ∀ x ∈ l, x < n) : l.length ≤ n := by
  have h1 : (natI l).Nodup := by
    unfold natI
    exact List.pairwise_map.mpr (h.imp (fun {a b} z e => z (by omega)))
  have h2 := nodup_sub_le (l := natI l) (m := natI (List.range n)) h1 (by
    intro x hx
    obtain ⟨k, hk, rfl⟩ := List.mem_map.mp hx
    exact List.mem_map.mpr ⟨k, List.mem_range.mpr (hl k hk), rfl⟩)
  simpa [natI] using h2
theorem BJ.few {rows : List (List Bool)} {one : Nat} {ks : Par} {wait : List Nat} (j : BJ rows one ks wait) : ks.length ≤ rows.length := by
  have := nodup_le j.tr.nodup j.lt
  simpa using this
theorem mN_app (w : List Nat) (k : Nat) : T.ml ((enI (natI w)).map T.p ++ [T.p (.int k)]) = mN (w ++ [k]) := by
  rw [mp_app]
  unfold mN mI natI
  simp
theorem row_turn {rows : List (List Bool)} (hW : SqW rows) (one other here : Nat) (hh : here < rows.length) (ks0 : Par) (wait0 : List Nat) (hk0 : here ∈ ks0.map (·.1)) (t0 : Tree (wv rows) one ks0) (lt0 : ∀ k ∈ ks0.map (·.1), k < rows.length) (wk0 : ∀ k ∈ wait0, k ∈ ks0.map (·.1)) (hwl : wait0.length ≤ 1000) (o6 : Option T) :
    ∃ ks wait o6', forRun (gNm 6) Q.way_between_L1 (rangeD 0 rows.length) (bEnv rows one other ks0 wait0 (some (.p (.int here))) o6) = some (.nx (bEnv rows one other ks wait (some (.p (.int here))) o6')) ∧
      Tree (wv rows) one ks ∧ (∀ k ∈ ks.map (·.1), k < rows.length) ∧ (∀ k ∈ wait, k ∈ ks.map (·.1)) ∧ (∀ k ∈ ks0.map (·.1), k ∈ ks.map (·.1)) ∧ ks.length + wait0.length = ks0.length + wait.length ∧ (∀ k ∈ ks.map (·.1), k ∉ wait → k ∈ ks0.map (·.1)) ∧ (∀ k ∈ wait0, k ∈ wait) ∧ ∀ j, wv rows here j → j ∈ ks.map (·.1) := by
  obtain ⟨e, he, ks, wait, o6', rfl, h1, h2, h3, h4, h5, h6, h7, h8⟩ := forRun_inv (g := gNm 6) (mb := Q.way_between_L1)
    (fun i e => ∃ ks wait o6, e = bEnv rows one other ks wait (some (.p (.int here))) o6 ∧ Tree (wv rows) one ks ∧ (∀ k ∈ ks.map (·.1), k < rows.length) ∧ (∀ k ∈ wait, k ∈ ks.map (·.1)) ∧ (∀ k ∈ ks0.map (·.1), k ∈ ks.map (·.1)) ∧ ks.length + wait0.length = ks0.length + wait.length ∧ (∀ k ∈ ks.map (·.1), k ∉ wait → k ∈ ks0.map (·.1)) ∧ (∀ k ∈ wait0, k ∈ wait) ∧ ∀ j, j < i → wv rows here j → j ∈ ks.map (·.1))
    (rangeD 0 rows.length) (bEnv rows one other ks0 wait0 (some (.p (.int here))) o6) 0
    ⟨ks0, wait0, o6, rfl, t0, lt0, wk0, fun _ h => h, by omega, fun _ h _ => h, fun _ h => h, fun j hj => by omega⟩ (by
      rintro i d e hd ⟨ks, wait, o6, rfl, h1, h2, h3, h4, h5, h6, h7, h8⟩
      have hi : i < rows.length := by
        have := (List.getElem?_eq_some_iff.mp hd).1
        simpa [rangeD] using this
      have hd' : d = .int i := by
        simp [rangeD, hi] at hd
        exact hd.symm
      subst hd'
      rw [Nat.zero_add] at h8 ⊢
      obtain ⟨r, a1, a2⟩ := way_at hW hh hi
      have hin := isSome_en ks i
      have hkl : ks.length ≤ rows.length := by
        have := nodup_le h1.nodup h2
        simpa using this
      have hfew := hW.few
      unfold Q.way_between_L1
      by_cases hw : wv rows here i
      · by_cases hk : i ∈ ks.map (·.1)
        · refine ⟨_, bEnv rows one other ks wait (some (.p (.int here))) (some (.p (.int i))), rfl, .inl ?_, ks, wait, _, rfl, h1, h2, h3, h4, h5, h6, h7, fun j hj hjw => ?_⟩
          · obtain ⟨dv, hin'⟩ : ∃ dv, valD (ks.map enP) (.inl (i : Int)) = some dv := Option.isSome_iff_exists.mp (by rw [hin]; simp only [hk, decide_true])
            unfold bEnv enW
            simp [a1, a2, hw, dNotInT, T.dct?, keyOf?, hin']
          · by_cases z : j = i
            · subst z; exact hk
            · exact h8 j (by omega) hjw
        · refine ⟨_, bEnv rows one other (ks ++ [(i, some here)]) (wait ++ [i]) (some (.p (.int here))) (some (.p (.int i))), rfl, .inl ?_, _, _, _, rfl, ?_, ?_, ?_, ?_, ?_, ?_, ?_, ?_⟩
          · have hin' : valD (ks.map enP) (.inl (i : Int)) = none := by
              have : (valD (ks.map enP) (.inl (i : Int))).isSome = false := by rw [hin]; simp only [hk, decide_false]
              simpa using this
            have hput := putD_en (h := here) hk
            have hz : ks.length < LIM := by unfold LIM; omega
            have hz2 : wait.length < LIM := by unfold LIM; omega
            have hz3 : (natI wait).length < LIM := by unfold natI; simpa using hz2
            have happ := mN_app wait i
            unfold bEnv enW
            simp only [ev_sIf, ev_bAnd, ev_bVal, ev_bOp]
            rw [← happ]
            simp only [mN, mI]
            simp [-List.map_append, a1, a2, hw, dNotInT, T.dct?, keyOf?, hin', M.sDPut, hz, hput, enI_length, hz3]
          · exact h1.snoc (h4 _ hk0) hk hw
          · intro k hk'
            rw [List.map_append, List.mem_append] at hk'
            rcases hk' with z | z
            · exact h2 k z
            · have : k = i := by simpa using z
              omega
          · intro k hk'
            rw [List.map_append]
            rcases List.mem_append.mp hk' with z | z
            · exact List.mem_append_left _ (h3 k z)
            · exact List.mem_append_right _ (by simpa using z)
          · intro k hk'
            rw [List.map_append]
            exact List.mem_append_left _ (h4 k hk')
          · simp only [List.length_append, List.length_singleton]; omega
          · intro k hk' hn
            rw [List.map_append, List.mem_append] at hk'
            rcases hk' with z | z
            · exact h6 k z (fun y => hn (List.mem_append_left _ y))
            · exact absurd (List.mem_append_right wait (by simpa using z)) hn
          · intro k hk'
            exact List.mem_append_left _ (h7 k hk')
          · intro j hj hjw
            rw [List.map_append]
            by_cases z : j = i
            · subst z; exact List.mem_append_right _ (by simp)
            · exact List.mem_append_left _ (h8 j (by omega) hjw)
      · refine ⟨_, bEnv rows one other ks wait (some (.p (.int here))) (some (.p (.int i))), rfl, .inl ?_, ks, wait, _, rfl, h1, h2, h3, h4, h5, h6, h7, fun j hj hjw => ?_⟩
        · unfold bEnv enW
          simp [a1, a2, hw]
        · by_cases z : j = i
          · subst z; exact absurd hjw hw
          · exact h8 j (by omega) hjw)
  refine ⟨ks, wait, o6', he, h1, h2, h3, h4, h5, h6, h7, fun j hj => h8 j ?_ hj⟩
  have := (wv_lt hW hj).2
  simpa [rangeD] using this
end B
/-! B23: way_between. -/
namespace B
open PySem PySem.Spec PyProof.Rows L2 M

theorem pop_head (env : En) (h : Nat) (w : List Nat) (e4 : env[4]? = some (some (mN (h :: w)))) : sSetPopAt 5 (pVar 4) (mC (.int 0)) env = some (.nx ((env.set 4 (some (mN w))).set 5 (some (.p (.int h))))) := by
  have h1 : ixN ((enI (natI (h :: w))).map T.p).length 0 = some 0 := ixN_of (by decide) (by simp [natI, enI])
  unfold sSetPopAt popN
  simp only [mN, mI] at *
  simp [-List.length_map, e4, h1, natI, enI]
  simp [natI, enI] at h1
  simp [h1]
theorem ne_nil_mI (xs : List Int) : M.neT (mI xs) (.p (.list [])) = some (.p (.bool (!xs.isEmpty))) := by
  have := ne_nil_ints xs
  unfold M.neT at *
  rw [snap_mI]
  simpa using this
theorem search {rows : List (List Bool)} (hW : SqW rows) (one other : Nat) : ∀ (fuel : Nat) (ks : Par) (wait : List Nat) (o5 o6 : Option T), BJ rows one ks wait → rows.length - ks.length + wait.length ≤ 1000 → rows.length - ks.length + wait.length < fuel →
    ∃ ks' wait' o5' o6', whileRun (bAnd (bOp M.neT (mVar 4) (mLst (aNil))) (bOp dNotInT (mVar 2) (mVar 3))) Q.way_between_L2 fuel (bEnv rows one other ks wait o5 o6) = some (.nx (bEnv rows one other ks' wait' o5' o6')) ∧ BJ rows one ks' wait' ∧ (wait' = [] ∨ other ∈ ks'.map (·.1))
  | 0, _, _, _, _, _, _, hf => by omega
  | fuel + 1, ks, wait, o5, o6, hJ, hwl, hf => by
    have hin := isSome_en ks other
    have L0 : 0 ≤ LIM := Nat.zero_le _
    have hne := ne_nil_mI (natI wait)
    by_cases hk : other ∈ ks.map (·.1)
    · refine ⟨ks, wait, o5, o6, ?_, hJ, .inr hk⟩
      obtain ⟨dv, hin'⟩ : ∃ dv, valD (ks.map enP) (.inl (other : Int)) = some dv := Option.isSome_iff_exists.mp (by rw [hin]; simp only [hk, decide_true])
      have hc : bAnd (bOp M.neT (mVar 4) (mLst (aNil))) (bOp dNotInT (mVar 2) (mVar 3)) (bEnv rows one other ks wait o5 o6) = some false := by
        unfold bEnv
        cases hw : (natI wait).isEmpty <;> rw [hw] at hne <;> simp [mN, hne, L0, dNotInT, T.dct?, keyOf?, hin']
      rw [whileRun, hc]
      rfl
    · have hin' : valD (ks.map enP) (.inl (other : Int)) = none := by
        have : (valD (ks.map enP) (.inl (other : Int))).isSome = false := by rw [hin]; simp only [hk, decide_false]
        simpa using this
      cases wait with
      | nil =>
        refine ⟨ks, [], o5, o6, ?_, hJ, .inl rfl⟩
        have hc : bAnd (bOp M.neT (mVar 4) (mLst (aNil))) (bOp dNotInT (mVar 2) (mVar 3)) (bEnv rows one other ks [] o5 o6) = some false := by
          unfold bEnv
          simp [mN, hne, L0, natI]
          have : M.neT (mI []) (.p (.list [])) = some (.p (.bool false)) := hne
          simp [this]
        rw [whileRun, hc]
        rfl
      | cons h w =>
        have hc : bAnd (bOp M.neT (mVar 4) (mLst (aNil))) (bOp dNotInT (mVar 2) (mVar 3)) (bEnv rows one other ks (h :: w) o5 o6) = some true := by
          have hne' : M.neT (mI (natI (h :: w))) (.p (.list [])) = some (.p (.bool true)) := hne
          unfold bEnv
          simp [mN, hne', L0, dNotInT, T.dct?, keyOf?, hin']
        have hhk : h ∈ ks.map (·.1) := hJ.wk h List.mem_cons_self
        have hhl := hJ.lt h hhk
        obtain ⟨ks', wait', o6', he, t1, t2, t3, t4, t5, t6, t7, t8⟩ := row_turn hW one other h hhl ks w hhk hJ.tr hJ.lt (fun k hk => hJ.wk k (List.mem_cons_of_mem _ hk)) (by rw [List.length_cons] at hwl; omega) o6
        have hJ' : BJ rows one ks' wait' := ⟨t1, t2, t3, fun k hk hn j hj => by
          by_cases z : k = h
          · subst z; exact t8 j hj
          · have h0 := t6 k hk hn
            have hnw : k ∉ h :: w := by
              intro y
              rcases List.mem_cons.mp y with y | y
              · exact z y
              · exact hn (t7 k y)
            exact t4 j (hJ.cl k h0 hnw j hj)⟩
        have hb : Q.way_between_L2 (bEnv rows one other ks (h :: w) o5 o6) = some (.nx (bEnv rows one other ks' wait' (some (.p (.int h))) o6')) := by
          unfold Q.way_between_L2
          rw [stepS (pop_head _ h w (by unfold bEnv; rfl))]
          have : ((bEnv rows one other ks (h :: w) o5 o6).set 4 (some (mN w))).set 5 (some (.p (.int h))) = bEnv rows one other ks w (some (.p (.int h))) o6 := rfl
          rw [this, ← he]
          have hsm : smallI (rows.length : Int) := by have := hW.few; unfold smallI; omega
          unfold bEnv enW
          simp [hsm]
        have hfew := hJ.few
        have hfew' := hJ'.few
        have hwf := hW.few
        obtain ⟨ks2, wait2, p5, p6, h1, h2, h3⟩ := search hW one other fuel ks' wait' (some (.p (.int h))) o6' hJ' (by rw [List.length_cons] at hwl; omega) (by rw [List.length_cons] at hf; omega)
        refine ⟨ks2, wait2, p5, p6, ?_, h2, h3⟩
        rw [whileRun, hc, Option.bind_some, if_pos rfl, hb]
        exact h1
def enR : Option (List Nat) → D
  | none => .none
  | some p => .list (enI (natI p))
theorem way_between {rows : List (List Bool)} (hW : SqW rows) {one other : Nat} (h1 : one < rows.length) (h2 : other < rows.length) :
    ∃ r : Option (List Nat), callT Q.way_between [.p (enW rows), .p (.int one), .p (.int other)] = some (.p (enR r)) ∧ (∀ p, r = some p → Way (wv rows) one other p ∧ ∀ x ∈ p, x < rows.length) ∧ (r = none → ¬ Reach (wv rows) one other) := by
  have L1 : 1 ≤ LIM := by decide
  have J0 : BJ rows one [(one, none)] [one] := ⟨.root, by simpa using h1, by simp, fun k hk hn => by simp at hk hn; exact absurd hk hn⟩
  have hwf := hW.few
  obtain ⟨ks, wait, o5, o6, he, hJ, hend⟩ := search hW one other FUEL [(one, none)] [one] none none J0 (by simp; omega) (by unfold FUEL; simp; omega)
  have hin := isSome_en ks other
  have hkl := hJ.few
  have s1 : ∀ rest : SM, sCons (sSetF 3 (mDOne (mVar 1) (mC .none))) (sCons (sSetF 4 (mLstF (aCons (mPure (mVar 1)) (aNil)))) (sCons (sWhile FUEL (bAnd (bOp M.neT (mVar 4) (mLst (aNil))) (bOp dNotInT (mVar 2) (mVar 3))) Q.way_between_L2) rest)) [some (.p (enW rows)), some (.p (.int one)), some (.p (.int other)), none, none, none, none, none] = rest (bEnv rows one other ks wait o5 o6) := by
    intro rest
    rw [stepS (e := [some (.p (enW rows)), some (.p (.int one)), some (.p (.int other)), some (.md ([(one, none)].map enP)), none, none, none, none]) (by simp [mDOne, keyOf?, enP, enO])]
    rw [stepS (e := bEnv rows one other [(one, none)] [one] none none) (by simp [L1, bEnv, mN, mI, natI, enI])]
    rw [stepS (by rw [ev_sWhile]; exact he)]
  by_cases hk : other ∈ ks.map (·.1)
  · obtain ⟨dv, hin'⟩ : ∃ dv, valD (ks.map enP) (.inl (other : Int)) = some dv := Option.isSome_iff_exists.mp (by rw [hin]; simp only [hk, decide_true])
    obtain ⟨p, b1, b2, b3⟩ := back (.p (enW rows)) other (some (mN wait)) o5 o6 ks hJ.tr.nodup hJ.tr [] (by simp) other [] FUEL hk (by unfold FUEL; omega) (by simp; omega)
    refine ⟨some p, ?_, fun q hq => ?_, fun z => by cases z⟩
    · have key : Q.way_between [.p (enW rows), .p (.int one), .p (.int other)] = some (mN p) := by
        unfold Q.way_between
        refine run_of ?_
        rw [show startE 8 [.p (enW rows), .p (.int one), .p (.int other)] = [some (.p (enW rows)), some (.p (.int one)), some (.p (.int other)), none, none, none, none, none] from rfl, s1]
        refine oxE (bEnv rows one other ks wait o5 o6) (by unfold bEnv; simp [dNotInT, T.dct?, keyOf?, hin']) ?_
        refine oxE (tailEnv (.p (enW rows)) one other ks (some (mN wait)) o5 o6 [other]) (by unfold bEnv tailEnv; simp [L1, mN, mI, natI, enI]) ?_
        refine oxE (tailEnv (.p (enW rows)) one other ks (some (mN wait)) o5 o6 p) (by rw [ev_sWhile, b1]; simp) ?_
        exact ⟨_, rfl, rfl⟩
      exact callT_snap rfl key (snap_mI _)
    · cases hq
      exact ⟨b2, fun x hx => hJ.lt x (b3 x hx)⟩
  · have hin' : valD (ks.map enP) (.inl (other : Int)) = none := by
      have : (valD (ks.map enP) (.inl (other : Int))).isSome = false := by rw [hin]; simp only [hk, decide_false]
      simpa using this
    refine ⟨none, ?_, fun q hq => (by cases hq), fun _ hr => ?_⟩
    · refine callT_p rfl ?_
      unfold Q.way_between
      refine run_of ?_
      rw [show startE 8 [.p (enW rows), .p (.int one), .p (.int other)] = [some (.p (enW rows)), some (.p (.int one)), some (.p (.int other)), none, none, none, none, none] from rfl, s1]
      refine ⟨.rt (.p .none), ?_, rfl⟩
      unfold bEnv
      simp [dNotInT, T.dct?, keyOf?, hin']
    · have hw : wait = [] := hend.resolve_right hk
      subst hw
      have : ∀ k, Reach (wv rows) one k → k ∈ ks.map (·.1) := by
        intro k hr
        induction hr with
        | refl => exact hJ.tr.one_mem
        | step _ w ih => exact hJ.cl _ ih (by simp) _ w
      exact hk (this other hr)
end B
/-! B26: least_through, whole; what it tells. -/
namespace B
open PySem PySem.Spec PyProof.Rows L2 M

theorem rng_at {n i : Nat} {d : D} (h : (rangeD 0 n)[i]? = some d) : i < n ∧ d = .int i := by
  have hi : i < n := by
    have := (List.getElem?_eq_some_iff.mp h).1
    simpa [rangeD] using this
  refine ⟨hi, ?_⟩
  simp [rangeD, hi] at h
  exact h.symm
theorem rng_len (n : Nat) : (rangeD 0 (n : Int)).length = n := by simp [rangeD]
theorem lt_row {n : Nat} {f : MF} (hf : Szm n f) {by' a : Nat} (hby : by' < n) (ha : a < n) (sh : T) (o5 o6 : Option T) :
    ∃ o5' o6', Q.least_through_L2 (ltEnv sh n (half f by' a 0) (some (.p (.int by'))) (some (.p (.int a))) o5 o6) = some (.nx (ltEnv sh n (half f by' (a + 1) 0) (some (.p (.int by'))) (some (.p (.int a))) o5' o6')) := by
  obtain ⟨e, he, o5', o6', rfl⟩ := forRun_inv (g := gNm 5) (mb := Q.least_through_L1) (fun i e => ∃ o5 o6, e = ltEnv sh n (half f by' a i) (some (.p (.int by'))) (some (.p (.int a))) o5 o6) (rangeD 0 n) (ltEnv sh n (half f by' a 0) (some (.p (.int by'))) (some (.p (.int a))) o5 o6) 0 ⟨_, _, rfl⟩ (by
    rintro i d e hd ⟨o5, o6, rfl⟩
    obtain ⟨hi, rfl⟩ := rng_at hd
    rw [Nat.zero_add]
    obtain ⟨o6', h⟩ := lt_L1 hf hby ha hi sh o6
    exact ⟨_, _, rfl, .inl h, _, _, rfl⟩)
  refine ⟨o5', o6', ?_⟩
  unfold Q.least_through_L2
  have e1 : matT n (half f by' a (0 + (rangeD 0 (n : Int)).length)) = matT n (half f by' (a + 1) 0) := by
    refine matT_congr fun i j hi hj => ?_
    rw [rng_len]
    unfold half
    have : (i < a ∨ i = a ∧ j < 0 + n) ↔ (i < a + 1 ∨ i = a + 1 ∧ j < 0) := by omega
    simp only [this]
  unfold ltEnv at he ⊢
  rw [e1] at he
  simp [he]
theorem lt_phase {n : Nat} {f : MF} (hf : Szm n f) {by' : Nat} (hby : by' < n) (sh : T) (o4 o5 o6 : Option T) :
    ∃ o4' o5' o6', Q.least_through_L3 (ltEnv sh n f (some (.p (.int by'))) o4 o5 o6) = some (.nx (ltEnv sh n (phase f by') (some (.p (.int by'))) o4' o5' o6')) := by
  have e0 : matT n f = matT n (half f by' 0 0) := matT_congr fun i j hi hj => by
    unfold half; rw [if_neg (by omega)]
  obtain ⟨e, he, o4', o5', o6', rfl⟩ := forRun_inv (g := gNm 4) (mb := Q.least_through_L2) (fun i e => ∃ o4 o5 o6, e = ltEnv sh n (half f by' i 0) (some (.p (.int by'))) o4 o5 o6) (rangeD 0 n) (ltEnv sh n (half f by' 0 0) (some (.p (.int by'))) o4 o5 o6) 0 ⟨_, _, _, rfl⟩ (by
    rintro i d e hd ⟨o4, o5, o6, rfl⟩
    obtain ⟨hi, rfl⟩ := rng_at hd
    rw [Nat.zero_add]
    obtain ⟨o5', o6', h⟩ := lt_row hf hby hi sh o5 o6
    exact ⟨_, _, rfl, .inl h, _, _, _, rfl⟩)
  refine ⟨o4', o5', o6', ?_⟩
  unfold Q.least_through_L3
  have e1 : matT n (half f by' (0 + (rangeD 0 (n : Int)).length) 0) = matT n (phase f by') := by
    refine matT_congr fun i j hi hj => ?_
    rw [rng_len]
    unfold half
    rw [if_pos (by omega)]
  unfold ltEnv at he ⊢
  rw [e1] at he
  rw [e0]
  simp [he]
/-- all phases -/
def fw (f : MF) : Nat → MF
  | 0 => f
  | k + 1 => phase (fw f k) k
theorem fw_sz {n : Nat} {f : MF} (hf : Szm n f) : ∀ k, k ≤ n → Szm n (fw f k)
  | 0, _ => hf
  | k + 1, h => phase_sz (fw_sz hf k (by omega)) (by omega)
theorem lcT_rows (n : Nat) (f : MF) (env : En) (he : env.length = 8) : ∀ l : List Nat, lcRunT (gNm 7) bYes (mListF (mVar 7)) env (l.map fun i => PyData.list (rowQ n (f i))) = some (l.map fun i => rowT n (f i))
  | [] => rfl
  | i :: r => by
    have h1 : mListF (mVar 7) (env.set 7 (some (.p (.list (rowQ n (f i)))))) = some (rowT n (f i)) := by
      simp [-getElem?_pos, he, rowT, rowQ]
    simp only [List.map_cons, lcRunT, ev_gNm, ev_bYes, Option.bind_some, h1, lcT_rows n f env he r]
    simp
theorem least_through {n : Nat} {f : MF} (hf : Szm n f) (hn : n ≤ 1000) : callT Q.least_through [.p (matQ n f)] = some (.p (matQ n (fw f n))) := by
  have key : Q.least_through [.p (matQ n f)] = some (matT n (fw f n)) := by
    unfold Q.least_through
    refine run_of ?_
    rw [show startE 8 [T.p (matQ n f)] = [some (.p (matQ n f)), none, none, none, none, none, none, none] from rfl]
    refine oxE [some (.p (matQ n f)), some (.p (.list (rangeD 0 n))), none, none, none, none, none, none] (by
      have h1 : (n : Int) ≤ 1000000 ∧ -1000000 ≤ (n : Int) := by omega
      unfold matQ
      simp [h1]) ?_
    refine oxE (ltEnv (.p (matQ n f)) n f none none none none) (by
      have h1 := lcT_rows n f [some (.p (matQ n f)), some (.p (.list (rangeD 0 n))), none, none, none, none, none, none] rfl (List.range n)
      have hz : n ≤ LIM := by unfold LIM; omega
      have hany : (T.p (matQ n f)).any? = some ((List.range n).map fun i => PyData.list (rowQ n (f i))) := rfl
      unfold ltEnv matT
      simp [hany, h1, hz]) ?_
    obtain ⟨e, he, o3, o4, o5, o6, rfl⟩ := forRun_inv (g := gNm 3) (mb := Q.least_through_L3) (fun i e => ∃ o3 o4 o5 o6, e = ltEnv (.p (matQ n f)) n (fw f i) o3 o4 o5 o6) (rangeD 0 n) (ltEnv (.p (matQ n f)) n f none none none none) 0 ⟨_, _, _, _, rfl⟩ (by
      rintro i d e hd ⟨o3, o4, o5, o6, rfl⟩
      obtain ⟨hi, rfl⟩ := rng_at hd
      rw [Nat.zero_add]
      obtain ⟨o4', o5', o6', h⟩ := lt_phase (fw_sz hf i (by omega)) hi (.p (matQ n f)) o4 o5 o6
      exact ⟨_, _, rfl, .inl h, _, _, _, _, rfl⟩)
    refine oxE _ (by rw [← he]; unfold ltEnv; simp) ?_
    rw [rng_len, Nat.zero_add]
    exact ⟨_, rfl, rfl⟩
  exact callT_snap rfl key (snap_matT _ _)
/-! ### what it tells -/
theorem reach_trans {W : Nat → Nat → Prop} {a b c : Nat} (h1 : Reach W a b) (h2 : Reach W b c) : Reach W a c := by
  induction h2 with
  | refl => exact h1
  | step _ w ih => exact .step ih w
/-- a step of at most c between two of n -/
def Ed (n : Nat) (S : MF) (c : Rat) (i j : Nat) : Prop := i < n ∧ j < n ∧ i ≠ j ∧ S i j ≤ c
theorem fwv_le {f : MF} {b i j : Nat} {c : Rat} : fwv f b i j ≤ c ↔ f i b ≤ c ∧ f b j ≤ c := by
  unfold fwv
  split <;> constructor <;> grind
theorem phase_le {f : MF} {b i j : Nat} {c : Rat} (hij : i ≠ j) : phase f b i j ≤ c ↔ f i j ≤ c ∨ (b ≠ i ∧ b ≠ j ∧ f i b ≤ c ∧ f b j ≤ c) := by
  unfold phase
  have hv := fwv_le (f := f) (b := b) (i := i) (j := j) (c := c)
  split
  · rename_i h
    obtain ⟨_, h1, h2, h3⟩ := h
    rw [hv]
    constructor
    · rintro ⟨p, q⟩; exact .inr ⟨h1, h2, p, q⟩
    · rintro (p | ⟨_, _, p, q⟩)
      · exact hv.mp (by grind)
      · exact ⟨p, q⟩
  · rename_i h
    constructor
    · exact .inl
    · rintro (p | ⟨h1, h2, p, q⟩)
      · exact p
      · have h3 : ¬ fwv f b i j < f i j := fun z => h ⟨hij, h1, h2, z⟩
        have h4 := hv.mpr ⟨p, q⟩
        grind
/-- what stands by k phases: closed under going on by one below k -/
theorem fw_trans {n : Nat} {S : MF} {c : Rat} : ∀ k, k ≤ n → ∀ m i j, m < k → i ≠ j → i ≠ m → m ≠ j → fw S k i m ≤ c → fw S k m j ≤ c → fw S k i j ≤ c
  | 0, _, m, i, j, hm, _, _, _, _, _ => by omega
  | k + 1, hk, m, i, j, hm, hij, him, hmj, h1, h2 => by
    have T := fw_trans (n := n) (S := S) (c := c) k (by omega)
    show phase (fw S k) k i j ≤ c
    have h1' : fw S k i m ≤ c ∨ (k ≠ i ∧ k ≠ m ∧ fw S k i k ≤ c ∧ fw S k k m ≤ c) := (phase_le him).mp h1
    have h2' : fw S k m j ≤ c ∨ (k ≠ m ∧ k ≠ j ∧ fw S k m k ≤ c ∧ fw S k k j ≤ c) := (phase_le hmj).mp h2
    rw [phase_le hij]
    by_cases hmk : m = k
    · subst hmk
      have a1 := h1'.resolve_right (fun z => z.2.1 rfl)
      have a2 := h2'.resolve_right (fun z => z.1 rfl)
      exact .inr ⟨fun z => him z.symm, hmj, a1, a2⟩
    · have hm' : m < k := by omega
      rcases h1' with a | ⟨a1, a2, a3, a4⟩
      · rcases h2' with b | ⟨b1, b2, b3, b4⟩
        · exact .inl (T m i j hm' hij him hmj a b)
        · by_cases hik : i = k
          · subst hik; exact .inl b4
          · exact .inr ⟨fun z => hik z.symm, b2, T m i k hm' hik him hmk a b3, b4⟩
      · rcases h2' with b | ⟨b1, b2, b3, b4⟩
        · by_cases hkj : k = j
          · subst hkj; exact .inl a3
          · exact .inr ⟨a1, hkj, a3, T m k j hm' hkj (fun z => hmk z.symm) hmj a4 b⟩
        · exact .inr ⟨a1, b2, a3, b4⟩
theorem fw_mono {S : MF} {c : Rat} {i j : Nat} (hij : i ≠ j) (h : S i j ≤ c) : ∀ k, fw S k i j ≤ c
  | 0 => h
  | k + 1 => (phase_le hij).mpr (.inl (fw_mono hij h k))
theorem fw_reach {n : Nat} {S : MF} {c : Rat} : ∀ k, k ≤ n → ∀ i j, i < n → j < n → i ≠ j → fw S k i j ≤ c → Reach (Ed n S c) i j
  | 0, _, i, j, hi, hj, hij, h => .step .refl ⟨hi, hj, hij, h⟩
  | k + 1, hk, i, j, hi, hj, hij, h => by
    rcases (phase_le hij).mp h with a | ⟨a1, a2, a3, a4⟩
    · exact fw_reach k (by omega) i j hi hj hij a
    · have r1 := fw_reach k (by omega) i k hi (by omega) (fun z => a1 z.symm) a3
      have r2 := fw_reach k (by omega) k j (by omega) hj a2 a4
      exact reach_trans r1 r2
theorem fw_le {n : Nat} {S : MF} {c : Rat} {i j : Nat} (hi : i < n) (hj : j < n) (hij : i ≠ j) : fw S n i j ≤ c ↔ Reach (Ed n S c) i j := by
  constructor
  · exact fw_reach n (Nat.le_refl _) i j hi hj hij
  · intro h
    have : ∀ k, Reach (Ed n S c) i k → k < n ∧ (i ≠ k → fw S n i k ≤ c) := by
      intro k hr
      induction hr with
      | refl => exact ⟨hi, fun z => absurd rfl z⟩
      | @step h k _ w ih =>
        obtain ⟨w1, w2, w3, w4⟩ := w
        refine ⟨w2, fun hik => ?_⟩
        by_cases hih : i = h
        · subst hih; exact fw_mono w3 w4 n
        · exact fw_trans n (Nat.le_refl _) h i k w1 hik hih w3 (ih.2 hih) (fw_mono w3 w4 n)
    exact (this j h).2 hij
end B
/-! B27: leak. -/
namespace B
open PySem PySem.Spec PyProof.Rows L2 M

def cM (bk : List Buy) (i j : Nat) : Int := dot (bk.getD i ([], [])).1 (bk.getD j ([], [])).2
def shr (bk : List Buy) : MF := fun i j => Rat.divInt (cM bk i j) (cM bk i i)
def cRow (bk : List Buy) (i : Nat) : List Int := (List.range bk.length).map fun j => cM bk i j
theorem getD_lt {bk : List Buy} {i : Nat} (h : i < bk.length) : bk.getD i ([], []) = bk[i] := by simp [List.getD, h]
theorem map_range {α : Type} (bk : List Buy) (g : Buy → α) : bk.map g = (List.range bk.length).map fun i => g (bk.getD i ([], [])) := by
  apply List.ext_getElem
  · simp
  · intro i h1 h2
    simp at h1
    simp [h1]
theorem costs_range (bk : List Buy) : costs bk = (List.range bk.length).map (cRow bk) := by
  unfold costs cRow cM
  rw [map_range bk fun b => bk.map fun c => dot b.1 c.2]
  apply List.map_congr_left
  intro i _
  rw [map_range bk fun c => dot (bk.getD i ([], [])).1 c.2]
def enC (bk : List Buy) : D := .list ((List.range bk.length).map fun i => .list (enI (cRow bk i)))
theorem enM_costs (bk : List Buy) : enM (costs bk) = enC bk := by
  unfold enM enC
  rw [costs_range, List.map_map]
  rfl
theorem ix_enC {bk : List Buy} {i : Nat} (hi : i < bk.length) : idxT (.p (enC bk)) (.p (.int i)) = some (.p (.list (enI (cRow bk i)))) := by
  unfold enC
  rw [ev_ixl, at_range hi]
  rfl
theorem ix_cRow {bk : List Buy} {i j : Nat} (hj : j < bk.length) : idxT (.p (.list (enI (cRow bk i)))) (.p (.int j)) = some (.p (.int (cM bk i j))) := by
  have : atI (enI (cRow bk i)) (j : Int) = some (.int (cM bk i j)) := by
    unfold enI cRow
    rw [List.map_map]
    exact at_range hj
  rw [ev_ixl, this]
  rfl
structure CostOk (bk : List Buy) : Prop where
  few : bk.length ≤ 100
  pr : Priced bk
  pos : ∀ i, i < bk.length → 0 < cM bk i i
  nn : ∀ i j, i < bk.length → j < bk.length → 0 ≤ cM bk i j
  sz : ∀ i j, i < bk.length → j < bk.length → Sz 900 (cM bk i j)
theorem szq_divInt {k : Nat} {a b : Int} (hb : b ≠ 0) (ha : Sz k a) (hb' : Sz k b) : SzQ k (Rat.divInt a b) := by
  unfold SzQ Sz at *
  have hg : 0 < Int.gcd b a := Int.gcd_pos_of_ne_zero_left a hb
  constructor
  · rw [Rat.num_divInt]
    refine Nat.lt_of_le_of_lt ?_ ha
    refine Nat.le_trans (Int.natAbs_ediv_le_natAbs ..) ?_
    rw [Int.natAbs_mul]
    have : b.sign.natAbs = 1 := Int.natAbs_sign_of_ne_zero hb
    rw [this]; omega
  · rw [Rat.den_divInt, if_neg hb, Int.natAbs_natCast]
    exact Nat.lt_of_le_of_lt (Nat.div_le_self _ _) hb'
theorem shr_sz {bk : List Buy} (h : CostOk bk) : Szm bk.length (shr bk) := fun i j hi hj =>
  szq_divInt (by have := h.pos i hi; omega) ((h.sz i j hi hj).mono (by decide)) ((h.sz i i hi hi).mono (by decide))
theorem share_of {bk : List Buy} (h : CostOk bk) {i j : Nat} (hi : i < bk.length) (hj : j < bk.length) : callT Q.share_of [.p (enC bk), .p (.int i), .p (.int j)] = some (.p (enQ (shr bk i j))) := by
  refine callT_p rfl ?_
  unfold Q.share_of
  refine run_ret ?_
  have h1 := fraction (cM bk i j) (cM bk i i) (by have := h.pos i hi; omega) ((h.sz i i hi hi).mono (by decide))
  rw [show startE 3 [T.p (enC bk), .p (.int i), .p (.int j)] = [some (.p (enC bk)), some (.p (.int i)), some (.p (.int j))] from rfl]
  simp only [ev_mCall, ev_aCons, ev_mOp, ev_mVar, ev_aNil]
  simp [ix_enC hi, ix_cRow hj, ix_cRow hi, h1, shr]
def Cyc (n : Nat) (S : MF) (c : Rat) : Prop := ∃ i j, Ed n S c j i ∧ Reach (Ed n S c) i j
def hr (S T : MF) (i j : Nat) : Rat := if T i j < S j i then S j i else T i j
theorem hr_le {S T : MF} {i j : Nat} {c : Rat} : hr S T i j ≤ c ↔ T i j ≤ c ∧ S j i ≤ c := by
  unfold hr
  split <;> constructor <;> grind
/-- the best of the pairs seen -/
def BestOk (n : Nat) (S T : MF) (seen : Nat → Nat → Prop) : Option (Rat × Nat × Nat) → Prop
  | none => ∀ i j, i < n → j < n → i ≠ j → ¬ seen i j
  | some (v, i, j) => i < n ∧ j < n ∧ i ≠ j ∧ v = hr S T i j ∧ ∀ i' j', i' < n → j' < n → i' ≠ j' → seen i' j' → v ≤ hr S T i' j'
def enBest : Option (Rat × Nat × Nat) → D
  | none => .none
  | some (v, i, j) => .tuple [enQ v, .int i, .int j]
def lkEnv (bk : List Buy) (n : Nat) (S T' : MF) (o4 : Option T) (best : Option (Rat × Nat × Nat)) (o7 o8 : Option T) : En :=
  [some (.p (enBk bk)), some (.p (enC bk)), some (.p (.list (rangeD 0 n))), some (.p (matQ n S)), o4, some (.p (matQ n T')), some (.p (enBest best)), o7, o8, none, none, none, none]
theorem ix_matQ {n i : Nat} {f : MF} (hi : i < n) : idxT (.p (matQ n f)) (.p (.int i)) = some (.p (.list (rowQ n (f i)))) := by
  unfold matQ
  rw [ev_ixl, at_mat hi]
  rfl
theorem ix_rowQ {n j : Nat} {g : Nat → Rat} (hj : j < n) : idxT (.p (.list (rowQ n g))) (.p (.int j)) = some (.p (enQ (g j))) := by
  rw [ev_ixl, at_row hj]
  rfl
theorem hr_sz {n : Nat} {S T : MF} (hS : Szm n S) (hT : Szm n T) {i j : Nat} (hi : i < n) (hj : j < n) : SzQ 1000 (hr S T i j) := by
  unfold hr
  split
  · exact hS j i hj hi
  · exact hT i j hi hj
theorem leak_L2 (bk : List Buy) {n : Nat} {S T' : MF} (hS : Szm n S) (hT : Szm n T') {a b : Nat} (ha : a < n) (hb : b < n) (best : Option (Rat × Nat × Nat)) (seen : Nat → Nat → Prop) (hbest : BestOk n S T' seen best) (o8 : Option T) :
    ∃ best' o8', Q.leak_L2 (lkEnv bk n S T' (some (.p (.int a))) best (some (.p (.int b))) o8) = some (.nx (lkEnv bk n S T' (some (.p (.int a))) best' (some (.p (.int b))) o8')) ∧ BestOk n S T' (fun i j => seen i j ∨ (i = a ∧ j = b)) best' := by
  unfold Q.leak_L2
  by_cases hab : a = b
  · refine ⟨best, o8, ?_, ?_⟩
    · unfold lkEnv
      simp [hab]
    · cases best with
      | none =>
        intro i j hi hj hij hs
        rcases hs with z | ⟨rfl, rfl⟩
        · exact hbest i j hi hj hij z
        · exact hij hab
      | some q =>
        obtain ⟨v, i, j⟩ := q
        obtain ⟨h1, h2, h3, h4, h5⟩ := hbest
        refine ⟨h1, h2, h3, h4, fun i' j' a1 a2 a3 a4 => ?_⟩
        rcases a4 with z | ⟨rfl, rfl⟩
        · exact h5 i' j' a1 a2 a3 z
        · exact absurd hab a3
  · have hab' : ¬ (a : Int) = (b : Int) := by omega
    have s1 := (hT a b ha hb).mono (show 1000 ≤ 100000 by decide)
    have s2 := (hS b a hb ha).mono (show 1000 ≤ 100000 by decide)
    have g1 := greater (T' a b) (S b a) s1 s2
    have shv := (hr_sz hS hT ha hb).mono (show 1000 ≤ 100000 by decide)
    have r1 : idxT (.p (matQ n T')) (.p (.int a)) = some (.p (.list (rowQ n (T' a)))) := ix_matQ ha
    have r2 : idxT (.p (.list (rowQ n (T' a)))) (.p (.int b)) = some (.p (enQ (T' a b))) := ix_rowQ hb
    have r3 : idxT (.p (matQ n S)) (.p (.int b)) = some (.p (.list (rowQ n (S b)))) := ix_matQ hb
    have r4 : idxT (.p (.list (rowQ n (S b)))) (.p (.int a)) = some (.p (enQ (S b a))) := ix_rowQ ha
    have L3 : 3 ≤ LIM := by decide
    have hstep : sSet 8 (mCall (callT Q.greater) (aCons (mOp idxT (mOp idxT (mVar 5) (mVar 4)) (mVar 7)) (aCons (mOp idxT (mOp idxT (mVar 3) (mVar 7)) (mVar 4)) (aNil)))) (lkEnv bk n S T' (some (.p (.int a))) best (some (.p (.int b))) o8) = some (.nx (lkEnv bk n S T' (some (.p (.int a))) best (some (.p (.int b))) (some (.p (enQ (hr S T' a b)))))) := by
      unfold lkEnv
      simp only [ev_sSet, ev_mCall, ev_aCons, ev_mOp, ev_mVar, ev_aNil]
      simp [r1, r2, r3, r4, g1, hr]
    have hnew : ∀ best0, (∀ i' j', i' < n → j' < n → i' ≠ j' → seen i' j' → hr S T' a b ≤ hr S T' i' j') → best0 = some (hr S T' a b, a, b) → BestOk n S T' (fun i j => seen i j ∨ (i = a ∧ j = b)) best0 := by
      rintro _ h rfl
      refine ⟨ha, hb, hab, rfl, fun i' j' a1 a2 a3 a4 => ?_⟩
      rcases a4 with z | ⟨rfl, rfl⟩
      · exact h i' j' a1 a2 a3 z
      · grind
    rw [ev_sIf, show bOp M.neT (mVar 4) (mVar 7) (lkEnv bk n S T' (some (.p (.int a))) best (some (.p (.int b))) o8) = some true by unfold lkEnv; simp [hab'], Option.bind_some, if_pos rfl]
    rw [stepS hstep]
    cases best with
    | none =>
      refine ⟨some (hr S T' a b, a, b), some (.p (enQ (hr S T' a b))), ?_, hnew _ (fun i' j' a1 a2 a3 a4 => absurd a4 (hbest i' j' a1 a2 a3)) rfl⟩
      unfold lkEnv
      have hisn : isnT (.p (enBest none)) (.p .none) = some (.p (.bool true)) := rfl
      simp [hisn, L3]
      rfl
    | some q =>
      obtain ⟨v, i, j⟩ := q
      obtain ⟨h1, h2, h3, h4, h5⟩ := hbest
      have sv : SzQ 100000 v := by rw [h4]; exact (hr_sz hS hT h1 h2).mono (by decide)
      have l1 := is_less (hr S T' a b) v shv sv
      have hisn : isnT (.p (enBest (some (v, i, j)))) (.p .none) = some (.p (.bool false)) := rfl
      have hat : atI [enQ v, PyData.int i, PyData.int j] 0 = some (enQ v) := rfl
      by_cases hlt : hr S T' a b < v
      · refine ⟨some (hr S T' a b, a, b), some (.p (enQ (hr S T' a b))), ?_, hnew _ (fun i' j' a1 a2 a3 a4 => by have := h5 i' j' a1 a2 a3 a4; grind) rfl⟩
        unfold lkEnv
        simp [hisn]
        simp [enBest, hat, l1, hlt, L3]
      · refine ⟨some (v, i, j), some (.p (enQ (hr S T' a b))), ?_, h1, h2, h3, h4, fun i' j' a1 a2 a3 a4 => ?_⟩
        · unfold lkEnv
          simp [hisn]
          simp [enBest, hat, l1, hlt]
        · rcases a4 with z | ⟨rfl, rfl⟩
          · exact h5 i' j' a1 a2 a3 z
          · grind
end B
/-! B28: leak, whole. -/
namespace B
open PySem PySem.Spec PyProof.Rows L2 M

theorem lc_range {g : D → En → Option En} {tt : En → Option Bool} {me : EM} {env : En} (n : Nat) (f : Nat → D) (h : ∀ i, i < n → ∃ e, g (.int (i : Int)) env = some e ∧ tt e = some true ∧ me e = some (.p (f i))) :
    lcRun g tt me env (rangeD 0 n) = some ((List.range n).map f) := by
  have e : rangeD 0 (n : Int) = (List.range n).map fun (k : Nat) => PyData.int (k : Int) := by simp [rangeD]
  rw [e]
  exact lcRun_map (fun (k : Nat) => PyData.int (k : Int)) f (List.range n) fun i hi => h i (List.mem_range.mp hi)
def accQ (n : Nat) (S : MF) (i : Nat) : List T := (List.range i).map fun k => T.p (.list (rowQ n (S k)))
theorem accQ_succ (n : Nat) (S : MF) (i : Nat) : accQ n S (i + 1) = accQ n S i ++ [T.p (.list (rowQ n (S i)))] := by
  unfold accQ; rw [List.range_succ, List.map_append]; rfl
theorem accQ_len (n : Nat) (S : MF) (i : Nat) : (accQ n S i).length = i := by unfold accQ; simp
theorem accQ_snap (n : Nat) (S : MF) : (T.ml (accQ n S n)).snap = some (matQ n S) := by
  have := snaps_p ((List.range n).map fun k => PyData.list (rowQ n (S k)))
  rw [List.map_map] at this
  unfold accQ
  simp only [T.snap]
  rw [show ((List.range n).map fun k => T.p (.list (rowQ n (S k)))) = (List.range n).map (T.p ∘ fun k => PyData.list (rowQ n (S k))) from rfl, this]
  rfl
/-- the open ways -/
def wRow (n : Nat) (S : MF) (c : Rat) (k : Nat) : List Bool := (List.range n).map fun j => decide (j ≠ k ∧ ¬ c < S k j)
def wRows (n : Nat) (S : MF) (c : Rat) : List (List Bool) := (List.range n).map (wRow n S c)
theorem wRows_len (n : Nat) (S : MF) (c : Rat) : (wRows n S c).length = n := by simp [wRows]
theorem wRows_sq {n : Nat} (S : MF) (c : Rat) (hn : n ≤ 100) : SqW (wRows n S c) := ⟨fun r hr => by
  unfold wRows at hr ⊢
  obtain ⟨k, _, rfl⟩ := List.mem_map.mp hr
  simp [wRow], by rw [wRows_len]; exact hn⟩
theorem wRows_ed {n : Nat} {S : MF} {c : Rat} {a b : Nat} : wv (wRows n S c) a b ↔ Ed n S c a b := by
  unfold wv Ed wRows wRow
  by_cases ha : a < n
  · by_cases hb : b < n
    · simp only [List.getD_eq_getElem?_getD, List.getElem?_map, List.getElem?_range ha, Option.map_some, Option.getD_some, List.getElem?_range hb, decide_eq_true_eq, ha, hb, true_and]
      constructor
      · rintro ⟨p, q⟩; exact ⟨fun z => p z.symm, by grind⟩
      · rintro ⟨p, q⟩; exact ⟨fun z => p z.symm, by grind⟩
    · simp [ha, hb, List.getElem?_eq_none]
  · simp [ha, List.getElem?_eq_none]
def accW (n : Nat) (S : MF) (c : Rat) (i : Nat) : List T := (List.range i).map fun k => T.p (.list (enBl (wRow n S c k)))
theorem accW_succ (n : Nat) (S : MF) (c : Rat) (i : Nat) : accW n S c (i + 1) = accW n S c i ++ [T.p (.list (enBl (wRow n S c i)))] := by
  unfold accW; rw [List.range_succ, List.map_append]; rfl
theorem accW_len (n : Nat) (S : MF) (c : Rat) (i : Nat) : (accW n S c i).length = i := by unfold accW; simp
theorem accW_snap (n : Nat) (S : MF) (c : Rat) : (T.ml (accW n S c n)).snap = some (enW (wRows n S c)) := by
  have := snaps_p ((List.range n).map fun k => PyData.list (enBl (wRow n S c k)))
  rw [List.map_map] at this
  unfold accW enW wRows
  simp only [T.snap]
  rw [show ((List.range n).map fun k => T.p (.list (enBl (wRow n S c k)))) = (List.range n).map (T.p ∘ fun k => PyData.list (enBl (wRow n S c k))) from rfl, this, List.map_map]
  rfl
structure LeakOk (n : Nat) (S : MF) (share : Rat) (p : List Nat) : Prop where
  cyc : ∀ c, share ≤ c ↔ Cyc n S c
  nd : p.Nodup
  len : 2 ≤ p.length
  lt : ∀ x ∈ p, x < n
  st : Steps (Ed n S share) p
  ends : ∃ a b, p.head? = some a ∧ p.getLast? = some b ∧ Ed n S share b a
  sz : SzQ 100000 share
theorem steps_imp {W W' : Nat → Nat → Prop} (h : ∀ a b, W a b → W' a b) : ∀ {p : List Nat}, Steps W p → Steps W' p
  | [], _ => trivial
  | [_], _ => trivial
  | a :: b :: r, s => ⟨h a b s.1, steps_imp h (p := b :: r) s.2⟩
theorem reach_imp {W W' : Nat → Nat → Prop} (h : ∀ a b, W a b → W' a b) {a b : Nat} (r : Reach W a b) : Reach W' a b := by
  induction r with
  | refl => exact .refl
  | step _ w ih => exact .step ih (h _ _ w)
theorem leak (bk : List Buy) (h : CostOk bk) (h2 : 2 ≤ bk.length) : ∃ share p, callT Q.leak [.p (enBk bk)] = some (.p (.tuple [enQ share, .list (enI (natI p))])) ∧ LeakOk bk.length (shr bk) share p := by
  obtain ⟨n, hn⟩ : ∃ n, bk.length = n := ⟨_, rfl⟩
  obtain ⟨S, hS⟩ : ∃ S, S = shr bk := ⟨_, rfl⟩
  have hsz : Szm n S := by rw [hS, ← hn]; exact shr_sz h
  have hfew : n ≤ 100 := by rw [← hn]; exact h.few
  obtain ⟨F, hF⟩ : ∃ F, F = fw S n := ⟨_, rfl⟩
  have hFz : Szm n F := by rw [hF]; exact fw_sz hsz n (Nat.le_refl _)
  have hlt := least_through hsz (by omega)
  rw [← hF] at hlt
  have L0 : 0 ≤ LIM := Nat.zero_le _
  have L2' : 2 ≤ LIM := by decide
  have hnl : n ≤ LIM := by unfold LIM; omega
  have hc := costs_of bk h.pr
  rw [enM_costs] at hc
  -- the shares
  obtain ⟨e1, he1, o4, rfl⟩ := forRun_inv (g := gNm 4) (mb := Q.leak_L1) (fun i e => ∃ o4, e = [some (.p (enBk bk)), some (.p (enC bk)), some (.p (.list (rangeD 0 n))), some (.ml (accQ n S i)), o4, none, none, none, none, none, none, none, none]) (rangeD 0 n) [some (.p (enBk bk)), some (.p (enC bk)), some (.p (.list (rangeD 0 n))), some (.ml []), none, none, none, none, none, none, none, none, none] 0 ⟨_, rfl⟩ (by
    rintro i d e hd ⟨o4, rfl⟩
    obtain ⟨hi, rfl⟩ := rng_at hd
    rw [Nat.zero_add]
    have l1 : lcRun (gNm 7) bYes (mCall (callT Q.share_of) (aCons (mVar 1) (aCons (mVar 4) (aCons (mVar 7) (aNil))))) [some (.p (enBk bk)), some (.p (enC bk)), some (.p (.list (rangeD 0 n))), some (.ml (accQ n S i)), some (.p (.int i)), none, none, none, none, none, none, none, none] (rangeD 0 n) = some (rowQ n (S i)) := by
      refine lc_range n (fun j => enQ (S i j)) fun j hj => ⟨_, rfl, rfl, ?_⟩
      have := share_of h (i := i) (j := j) (by omega) (by omega)
      rw [← hS] at this
      simp [this]
    refine ⟨_, [some (.p (enBk bk)), some (.p (enC bk)), some (.p (.list (rangeD 0 n))), some (.ml (accQ n S (i + 1))), some (.p (.int i)), none, none, none, none, none, none, none, none], rfl, .inl ?_, _, rfl⟩
    unfold Q.leak_L1
    have hr : (rowQ n (S i)).length ≤ LIM := by unfold rowQ; simpa using hnl
    have hq : (accQ n S i).length < LIM := by rw [accQ_len]; unfold LIM; omega
    rw [accQ_succ]
    simp [l1, hr, hq])
  rw [rng_len, Nat.zero_add] at he1
  -- the best
  obtain ⟨e2, he2, o4b, best, o7, o8, rfl, hbest⟩ := forRun_inv (g := gNm 4) (mb := Q.leak_L3) (fun i e => ∃ o4 best o7 o8, e = lkEnv bk n S F o4 best o7 o8 ∧ BestOk n S F (fun a b => a < i) best) (rangeD 0 n) (lkEnv bk n S F o4 none none none) 0 ⟨_, _, _, _, rfl, fun i j _ _ _ z => by omega⟩ (by
    rintro i d e hd ⟨o4, best, o7, o8, rfl, hb⟩
    obtain ⟨hi, rfl⟩ := rng_at hd
    rw [Nat.zero_add] at hb ⊢
    obtain ⟨e3, he3, best', o7', o8', rfl, hb'⟩ := forRun_inv (g := gNm 7) (mb := Q.leak_L2) (fun j e => ∃ best o7 o8, e = lkEnv bk n S F (some (.p (.int i))) best o7 o8 ∧ BestOk n S F (fun a b => a < i ∨ (a = i ∧ b < j)) best) (rangeD 0 n) (lkEnv bk n S F (some (.p (.int i))) best o7 o8) 0 ⟨best, _, _, rfl, by
      cases best with
      | none => exact fun a b h1 h2 h3 z => hb a b h1 h2 h3 (by omega)
      | some q => exact ⟨hb.1, hb.2.1, hb.2.2.1, hb.2.2.2.1, fun a b h1 h2 h3 z => hb.2.2.2.2 a b h1 h2 h3 (by omega)⟩⟩ (by
        rintro j d e hd ⟨best, o7, o8, rfl, hb⟩
        obtain ⟨hj, rfl⟩ := rng_at hd
        rw [Nat.zero_add] at hb ⊢
        obtain ⟨best', o8', h1, h2⟩ := leak_L2 bk hsz hFz hi hj best _ hb o8
        refine ⟨_, _, rfl, .inl h1, best', _, _, rfl, ?_⟩
        cases best' with
        | none => exact fun a b h1 h2' h3 z => h2 a b h1 h2' h3 (by omega)
        | some q => exact ⟨h2.1, h2.2.1, h2.2.2.1, h2.2.2.2.1, fun a b h1 h2' h3 z => h2.2.2.2.2 a b h1 h2' h3 (by omega)⟩)
    rw [rng_len, Nat.zero_add] at hb'
    refine ⟨_, _, rfl, .inl (by unfold Q.leak_L3; rw [← he3]; unfold lkEnv; simp), _, best', _, _, rfl, ?_⟩
    cases best' with
    | none => exact fun a b h1 h2' h3 z => hb' a b h1 h2' h3 (by omega)
    | some q => exact ⟨hb'.1, hb'.2.1, hb'.2.2.1, hb'.2.2.2.1, fun a b h1 h2' h3 z => hb'.2.2.2.2 a b h1 h2' h3 (by omega)⟩)
  rw [rng_len, Nat.zero_add] at hbest
  cases best with
  | none => exact absurd (show (0 : Nat) < n by omega) (hbest 0 1 (by omega) (by omega) (by omega))
  | some q =>
    obtain ⟨share, one, other⟩ := q
    obtain ⟨b1, b2, b3, b4, b5⟩ := hbest
    have hle := (hr_le (S := S) (T := F) (i := one) (j := other) (c := share)).mp (by rw [b4]; grind)
    have hreach : Reach (Ed n S share) one other := (fw_le b1 b2 b3).mp (by rw [← hF]; exact hle.1)
    have hsq := wRows_sq (n := n) S share hfew
    obtain ⟨r, hw, hw1, hw2⟩ := way_between hsq (one := one) (other := other) (by rw [wRows_len]; exact b1) (by rw [wRows_len]; exact b2)
    have ssz : SzQ 100000 share := by rw [b4]; exact (hr_sz hsz hFz b1 b2).mono (by decide)
    cases r with
    | none => exact absurd (reach_imp (fun a b z => wRows_ed.mpr z) hreach) (hw2 rfl)
    | some p =>
      obtain ⟨wp, wl⟩ := hw1 p rfl
      refine ⟨share, p, ?_, ?_⟩
      · -- the ways
        obtain ⟨e4, he4, o11, rfl⟩ := forRun_inv (g := gNm 11) (mb := Q.leak_L4) (fun i e => ∃ o11, e = [some (.p (enBk bk)), some (.p (enC bk)), some (.p (.list (rangeD 0 n))), some (.p (matQ n S)), some (.p (.int one)), some (.p (matQ n F)), some (.p (enBest (some (share, one, other)))), some (.p (.int other)), o8, some (.p (enQ share)), some (.ml (accW n S share i)), o11, none]) (rangeD 0 n) [some (.p (enBk bk)), some (.p (enC bk)), some (.p (.list (rangeD 0 n))), some (.p (matQ n S)), some (.p (.int one)), some (.p (matQ n F)), some (.p (enBest (some (share, one, other)))), some (.p (.int other)), o8, some (.p (enQ share)), some (.ml []), none, none] 0 ⟨_, rfl⟩ (by
          rintro i d e hd ⟨o11, rfl⟩
          obtain ⟨hi, rfl⟩ := rng_at hd
          rw [Nat.zero_add]
          have l1 : lcRun (gNm 12) bYes (mAnd (mOp M.neT (mVar 12) (mVar 11)) (mNot (mCall (callT Q.is_less) (aCons (mVar 9) (aCons (mOp idxT (mOp idxT (mVar 3) (mVar 11)) (mVar 12)) (aNil)))))) [some (.p (enBk bk)), some (.p (enC bk)), some (.p (.list (rangeD 0 n))), some (.p (matQ n S)), some (.p (.int one)), some (.p (matQ n F)), some (.p (enBest (some (share, one, other)))), some (.p (.int other)), o8, some (.p (enQ share)), some (.ml (accW n S share i)), some (.p (.int i)), none] (rangeD 0 n) = some (enBl (wRow n S share i)) := by
            have := lc_range (g := gNm 12) (tt := bYes) (me := mAnd (mOp M.neT (mVar 12) (mVar 11)) (mNot (mCall (callT Q.is_less) (aCons (mVar 9) (aCons (mOp idxT (mOp idxT (mVar 3) (mVar 11)) (mVar 12)) (aNil)))))) (env := [some (.p (enBk bk)), some (.p (enC bk)), some (.p (.list (rangeD 0 n))), some (.p (matQ n S)), some (.p (.int one)), some (.p (matQ n F)), some (.p (enBest (some (share, one, other)))), some (.p (.int other)), o8, some (.p (enQ share)), some (.ml (accW n S share i)), some (.p (.int i)), none]) n (fun j => .bool (decide (j ≠ i ∧ ¬ share < S i j))) (fun j hj => ⟨_, rfl, rfl, by
              have r1 : idxT (.p (matQ n S)) (.p (.int i)) = some (.p (.list (rowQ n (S i)))) := ix_matQ hi
              have r2 : idxT (.p (.list (rowQ n (S i)))) (.p (.int j)) = some (.p (enQ (S i j))) := ix_rowQ hj
              have l2 := is_less share (S i j) ssz ((hsz i j hi hj).mono (by decide))
              by_cases hji : j = i
              · simp [hji]
              · have hji' : ¬ (j : Int) = (i : Int) := by omega
                simp [hji, hji', r1, r2, l2]⟩)
            rw [this]
            unfold enBl wRow
            rw [List.map_map]
            rfl
          refine ⟨_, [some (.p (enBk bk)), some (.p (enC bk)), some (.p (.list (rangeD 0 n))), some (.p (matQ n S)), some (.p (.int one)), some (.p (matQ n F)), some (.p (enBest (some (share, one, other)))), some (.p (.int other)), o8, some (.p (enQ share)), some (.ml (accW n S share (i + 1))), some (.p (.int i)), none], rfl, .inl ?_, _, rfl⟩
          unfold Q.leak_L4
          have hrl : (enBl (wRow n S share i)).length ≤ LIM := by unfold enBl wRow; simpa using hnl
          have hq : (accW n S share i).length < LIM := by rw [accW_len]; unfold LIM; omega
          rw [accW_succ]
          simp [l1, hrl, hq])
        rw [rng_len, Nat.zero_add] at he4
        refine callT_p rfl ?_
        unfold Q.leak
        refine run_of ?_
        rw [show startE 13 [T.p (enBk bk)] = [some (.p (enBk bk)), none, none, none, none, none, none, none, none, none, none, none, none] from rfl]
        have hlen : lenT [.p (enBk bk)] = some (.p (.int n)) := by unfold enBk; simp [hn]
        have hnn : ¬ (n : Int) < 2 := by omega
        have hsm : (n : Int) ≤ 1000000 ∧ -1000000 ≤ (n : Int) := by omega
        refine oxE [some (.p (enBk bk)), none, none, none, none, none, none, none, none, none, none, none, none] (by simp [hlen, hnn]) ?_
        refine oxE [some (.p (enBk bk)), some (.p (enC bk)), none, none, none, none, none, none, none, none, none, none, none] (by simp [hc]) ?_
        refine oxE [some (.p (enBk bk)), some (.p (enC bk)), some (.p (.list (rangeD 0 n))), none, none, none, none, none, none, none, none, none, none] (by simp [hlen, hsm]) ?_
        refine oxE [some (.p (enBk bk)), some (.p (enC bk)), some (.p (.list (rangeD 0 n))), some (.ml []), none, none, none, none, none, none, none, none, none] (by simp [L0]) ?_
        refine oxE _ (by rw [← he1]; simp) ?_
        have hfz : ∀ m : SM, sFrz 3 m [some (.p (enBk bk)), some (.p (enC bk)), some (.p (.list (rangeD 0 n))), some (.ml (accQ n S n)), o4, none, none, none, none, none, none, none, none] = m [some (.p (enBk bk)), some (.p (enC bk)), some (.p (.list (rangeD 0 n))), some (.p (matQ n S)), o4, none, none, none, none, none, none, none, none] := by
          intro m
          simp [accQ_snap]
        rw [hfz]
        refine oxE [some (.p (enBk bk)), some (.p (enC bk)), some (.p (.list (rangeD 0 n))), some (.p (matQ n S)), o4, some (.p (matQ n F)), none, none, none, none, none, none, none] (by simp [hlt]) ?_
        refine oxE (lkEnv bk n S F o4 none none none) (by unfold lkEnv enBest; simp) ?_
        refine oxE _ (by rw [← he2]; unfold lkEnv; simp) ?_
        refine oxE [some (.p (enBk bk)), some (.p (enC bk)), some (.p (.list (rangeD 0 n))), some (.p (matQ n S)), some (.p (.int one)), some (.p (matQ n F)), some (.p (enBest (some (share, one, other)))), some (.p (.int other)), o8, some (.p (enQ share)), none, none, none] (by unfold lkEnv; simp [enBest]) ?_
        refine oxE [some (.p (enBk bk)), some (.p (enC bk)), some (.p (.list (rangeD 0 n))), some (.p (matQ n S)), some (.p (.int one)), some (.p (matQ n F)), some (.p (enBest (some (share, one, other)))), some (.p (.int other)), o8, some (.p (enQ share)), some (.ml []), none, none] (by simp [L0]) ?_
        refine oxE _ (by rw [← he4]; simp) ?_
        have hfz2 : ∀ m : SM, sFrz 10 m [some (.p (enBk bk)), some (.p (enC bk)), some (.p (.list (rangeD 0 n))), some (.p (matQ n S)), some (.p (.int one)), some (.p (matQ n F)), some (.p (enBest (some (share, one, other)))), some (.p (.int other)), o8, some (.p (enQ share)), some (.ml (accW n S share n)), o11, none] = m [some (.p (enBk bk)), some (.p (enC bk)), some (.p (.list (rangeD 0 n))), some (.p (matQ n S)), some (.p (.int one)), some (.p (matQ n F)), some (.p (enBest (some (share, one, other)))), some (.p (.int other)), o8, some (.p (enQ share)), some (.p (enW (wRows n S share))), o11, none] := by
          intro m
          simp [accW_snap]
        rw [hfz2]
        refine ⟨_, ?_, rfl⟩
        simp [hw, L2', enR]
      · rw [hn, ← hS]
        refine ⟨fun c => ?_, wp.nd, ?_, fun x hx => by have := wl x hx; rwa [wRows_len] at this, steps_imp (fun a b z => wRows_ed.mp z) wp.st, ⟨one, other, wp.hd, wp.lst, b2, b1, fun z => b3 z.symm, hle.2⟩, ssz⟩
        · constructor
          · intro hc'
            refine ⟨one, other, ⟨b2, b1, fun z => b3 z.symm, by have := hle.2; grind⟩, ?_⟩
            exact reach_imp (fun a b z => ⟨z.1, z.2.1, z.2.2.1, by have := z.2.2.2; grind⟩) hreach
          · rintro ⟨i, j, ⟨e1, e2, e3, e4⟩, e5⟩
            have := b5 i j e2 e1 (fun z => e3 z.symm) e2
            have h3 : hr S F i j ≤ c := hr_le.mpr ⟨by rw [hF]; exact (fw_le e2 e1 (fun z => e3 z.symm)).mpr e5, e4⟩
            grind
        · cases p with
          | nil => have := wp.hd; simp at this
          | cons x r =>
            cases r with
            | nil =>
              have h1 := wp.hd
              have h2 := wp.lst
              simp at h1 h2
              omega
            | cons y t => simp
end B
/-! C1: evaluation of plain code. -/
namespace C
open PySem PySem.Spec PyProof.Rows L2 M N B

section
variable {a b c d e g : D} {p q r : Option D} {f f2 : T → T → Option T} {i j : Int} {ds es : List D} {x y : Bool}
@[simp] theorem c_xop : xop f (some a) (some b) = op2 f a b := rfl
@[simp] theorem c_xf1 {f : List T → Option T} : xf1 f (some a) = (f [.p a]).bind T.pure? := rfl
@[simp] theorem c_xf2 {f : List T → Option T} : xf2 f (some a) (some b) = (f [.p a, .p b]).bind T.pure? := rfl
@[simp] theorem c_ap1 {α R : Type} {f : α → Option R} {a : α} : ap1 f (some a) = f a := rfl
@[simp] theorem c_ap2 {α β R : Type} {f : α → β → Option R} {a : α} {b : β} : ap2 f (some a) (some b) = f a b := rfl
@[simp] theorem c_ap3 {α β γ R : Type} {f : α → β → γ → Option R} {a : α} {b : β} {c : γ} : ap3 f (some a) (some b) (some c) = f a b c := rfl
@[simp] theorem c_ap4 {α β γ δ R : Type} {f : α → β → γ → δ → Option R} {a : α} {b : β} {c : γ} {d : δ} : ap4 f (some a) (some b) (some c) (some d) = f a b c d := rfl
@[simp] theorem c_ap5 {α β γ δ ε R : Type} {f : α → β → γ → δ → ε → Option R} {a : α} {b : β} {c : γ} {d : δ} {e : ε} : ap5 f (some a) (some b) (some c) (some d) (some e) = f a b c d e := rfl
@[simp] theorem c_ap6 {α β γ δ ε ζ R : Type} {f : α → β → γ → δ → ε → ζ → Option R} {a : α} {b : β} {c : γ} {d : δ} {e : ε} {g : ζ} : ap6 f (some a) (some b) (some c) (some d) (some e) (some g) = f a b c d e g := rfl
@[simp] theorem c_xseq0 : xseq [] = some [] := rfl
@[simp] theorem c_xseq1 {l : List (Option D)} : xseq (some a :: l) = (xseq l).map fun as => a :: as := rfl
@[simp] theorem c_xtup {l : List (Option D)} : xtup l = (xseq l).map PyData.tuple := rfl
@[simp] theorem c_xlst {l : List (Option D)} : xlst l = (xseq l).map PyData.list := rfl
@[simp] theorem c_boolD : boolD? (.bool x) = some x := rfl
@[simp] theorem c_intD : intD? (.int i) = some i := rfl
@[simp] theorem c_seqD1 : seqD? (.list ds) = some ds := rfl
@[simp] theorem c_seqD2 : seqD? (.tuple ds) = some ds := rfl
@[simp] theorem c_xbool : xbool (some (.bool x)) = some x := rfl
@[simp] theorem c_xif {R : Type} {p q : Option R} : xif (some x) p q = if x then p else q := rfl
@[simp] theorem c_xif_t {R : Type} {p q : Option R} : xif (some true) p q = p := rfl
@[simp] theorem c_xif_f {R : Type} {p q : Option R} : xif (some false) p q = q := rfl
@[simp] theorem c_xand {p q : Option Bool} : xand p q = xif p q (some false) := rfl
@[simp] theorem c_xor {p q : Option Bool} : xor' p q = xif p (some true) q := rfl
@[simp] theorem c_xnot : xnot (some x) = some (!x) := rfl
@[simp] theorem c_xmand : xmand p q = xif (xbool p) q (some (.bool false)) := rfl
@[simp] theorem c_xmor : xmor p q = xif (xbool p) (some (.bool true)) q := rfl
@[simp] theorem c_xmnot : xmnot (some (.bool x)) = some (.bool (!x)) := rfl
@[simp] theorem c_xchain : xchain f f2 (some a) (some b) r = xif (xbool (op2 f a b)) (r.bind fun u => op2 f2 b u) (some (.bool false)) := rfl
@[simp] theorem c_xneg : xneg (some (.int i)) = some (.int (-i)) := rfl
@[simp] theorem c_xint : xint (some (.int i)) = some (some i) := rfl
@[simp] theorem c_xslice {lo hi : Option Int} : xslice (some d) (some lo) (some hi) = (sliceT (.p d) lo hi).bind T.pure? := rfl
@[simp] theorem c_xrev1 : xrev (some (.list ds)) = some (.list ds.reverse) := rfl
@[simp] theorem c_xrev2 : xrev (some (.tuple ds)) = some (.tuple ds.reverse) := rfl
@[simp] theorem c_xlistR : xlistR (some (.int j)) = if j ≤ 1000000 ∧ -1000000 ≤ j then some (.list (rangeD 0 j)) else none := rfl
@[simp] theorem c_xisi {n : String} : xisi n (some d) = some (.bool (isi (tyN d) n)) := rfl
@[simp] theorem c_un2 {R : Type} {k : D → D → Option R} : un2 (.tuple [a, b]) k = k a b := rfl
@[simp] theorem c_un3 {R : Type} {k : D → D → D → Option R} : un3 (.tuple [a, b, c]) k = k a b c := rfl
@[simp] theorem c_un4 {R : Type} {k : D → D → D → D → Option R} : un4 (.tuple [a, b, c, d]) k = k a b c d := rfl
@[simp] theorem c_iseq1 : iseq (some (.list ds)) = some ds := rfl
@[simp] theorem c_iseq2 : iseq (some (.tuple ds)) = some ds := rfl
@[simp] theorem c_irng1 : irng1 (some (.int j)) = if smallI j then some (rangeD 0 j) else none := rfl
@[simp] theorem c_irng2 : irng2 (some (.int i)) (some (.int j)) = if smallI i ∧ smallI j then some (rangeD i j) else none := rfl
@[simp] theorem c_izip1 : izip (some (.list ds)) (some (.list es)) = some (zipD ds es) := rfl
@[simp] theorem c_izip2 : izip (some (.tuple ds)) (some (.tuple es)) = some (zipD ds es) := rfl
@[simp] theorem c_ienum : ienum (some (.list ds)) = some (enumD 0 ds) := rfl
@[simp] theorem c_asL : asL (some (.list ds)) = some ds := rfl
@[simp] theorem c_aft1 {S R : Type} {s : S} {kr : D → R} {k : S → Option R} : aft (some (.nx s)) kr k = k s := rfl
@[simp] theorem c_aft2 {S R : Type} {kr : D → R} {k : S → Option R} : aft (some (.rt d)) kr k = some (kr d) := rfl
@[simp] theorem c_flatO : flatO (some d) = if flatD d then some d else none := rfl
/-! operators -/
@[simp] theorem c_add : op2 addT (.int i) (.int j) = some (.int (i + j)) := rfl
@[simp] theorem c_sub : op2 subT (.int i) (.int j) = some (.int (i - j)) := rfl
@[simp] theorem c_mul : op2 mulT (.int i) (.int j) = if mulOk i j then some (.int (i * j)) else none := by
  simp only [op2, ev_mul]; split <;> rfl
@[simp] theorem c_mod : op2 modT (.int i) (.int j) = if j = 0 then none else some (.int (i.fmod j)) := by
  simp only [op2, ev_mod]; split <;> rfl
@[simp] theorem c_fdiv : op2 fdivT (.int i) (.int j) = if divOk j then some (.int (i.fdiv j)) else none := by
  simp only [op2, ev_fdiv]; split <;> rfl
@[simp] theorem c_pow : op2 powT (.int i) (.int j) = if 0 ≤ j ∧ j ≤ 1000000 ∧ i.natAbs < 2 ^ 64 then some (.int (i ^ j.toNat)) else none := by
  simp only [op2, ev_pow]; split <;> rfl
@[simp] theorem c_lt : op2 ltT (.int i) (.int j) = some (.bool (decide (i < j))) := rfl
@[simp] theorem c_le : op2 leT (.int i) (.int j) = some (.bool (decide (i ≤ j))) := rfl
@[simp] theorem c_gt : op2 gtT (.int i) (.int j) = some (.bool (decide (j < i))) := rfl
@[simp] theorem c_ge : op2 geT (.int i) (.int j) = some (.bool (decide (j ≤ i))) := rfl
@[simp] theorem c_eqi : op2 M.eqT (.int i) (.int j) = some (.bool (decide (i = j))) := by simp [op2]
@[simp] theorem c_nei : op2 M.neT (.int i) (.int j) = some (.bool (!decide (i = j))) := by simp [op2]
@[simp] theorem c_eqb : op2 M.eqT (.bool x) (.bool y) = some (.bool (x == y)) := by simp [op2]
@[simp] theorem c_neb : op2 M.neT (.bool x) (.bool y) = some (.bool (!(x == y))) := by simp [op2]
@[simp] theorem c_ixl : op2 idxT (.list ds) (.int i) = atI ds i := by
  simp only [op2, ev_ixl]; cases atI ds i <;> rfl
@[simp] theorem c_ixt : op2 idxT (.tuple ds) (.int i) = atI ds i := by
  simp only [op2, ev_ixt]; cases atI ds i <;> rfl
@[simp] theorem c_addl : op2 addT (.list ds) (.list es) = if ds.length + es.length ≤ LIM then some (.list (ds ++ es)) else none := by
  simp only [op2, ev_addl]; split <;> rfl
@[simp] theorem c_addt : op2 addT (.tuple ds) (.tuple es) = if ds.length + es.length ≤ LIM then some (.tuple (ds ++ es)) else none := by
  simp only [op2, ev_addt]; split <;> rfl
@[simp] theorem c_isn0 : op2 isnT .none .none = some (.bool true) := rfl
@[simp] theorem c_isnt : op2 isnT (.tuple ds) .none = some (.bool false) := rfl
@[simp] theorem c_isnl : op2 isnT (.list ds) .none = some (.bool false) := rfl
@[simp] theorem c_isni : op2 isnT (.int i) .none = some (.bool false) := rfl
@[simp] theorem c_notn0 : op2 notnT .none .none = some (.bool false) := rfl
@[simp] theorem c_notnt : op2 notnT (.tuple ds) .none = some (.bool true) := rfl
@[simp] theorem c_notnl : op2 notnT (.list ds) .none = some (.bool true) := rfl
@[simp] theorem c_notni : op2 notnT (.int i) .none = some (.bool true) := rfl
end
/-! comprehensions -/
theorem mapP_of {α : Type} {h : D → Option D} (en : α → D) (f : α → D) : ∀ (xs : List α), (∀ x ∈ xs, h (en x) = some (f x)) → mapP h (xs.map en) = some (xs.map f)
  | [], _ => rfl
  | x :: r, hx => by
    simp only [List.map_cons, mapP, hx x List.mem_cons_self, Option.bind_some, mapP_of en f r (fun y hy => hx y (List.mem_cons_of_mem _ hy)), Option.map_some]
theorem xmap_of {α : Type} {h : D → Option D} (en : α → D) (f : α → D) (xs : List α) (hl : xs.length ≤ LIM) (hx : ∀ x ∈ xs, h (en x) = some (f x)) : xmap h (some (xs.map en)) = some (.list (xs.map f)) := by
  simp only [xmap, lim, Option.bind_some, mapP_of en f xs hx, List.length_map, hl, if_true, Option.map_some]
theorem lcP_of {α : Type} {h : D → Option (Option D)} (en : α → D) (p : α → Bool) (f : α → D) : ∀ (xs : List α), (∀ x ∈ xs, h (en x) = some (if p x then some (f x) else none)) → lcP h (xs.map en) = some ((xs.filter p).map f)
  | [], _ => rfl
  | x :: r, hx => by
    simp only [List.map_cons, lcP, hx x List.mem_cons_self, Option.bind_some, lcP_of en p f r (fun y hy => hx y (List.mem_cons_of_mem _ hy)), Option.map_some, List.filter_cons]
    cases p x <;> rfl
theorem xlc_of {α : Type} {h : D → Option (Option D)} (en : α → D) (p : α → Bool) (f : α → D) (xs : List α) (hl : xs.length ≤ LIM) (hx : ∀ x ∈ xs, h (en x) = some (if p x then some (f x) else none)) : xlc h (some (xs.map en)) = some (.list ((xs.filter p).map f)) := by
  have : (xs.filter p).length ≤ LIM := Nat.le_trans (List.length_filter_le _ _) hl
  simp only [xlc, lim, Option.bind_some, lcP_of en p f xs hx, List.length_map, this, if_true, Option.map_some]
theorem rangeD_map (n : Nat) : rangeD 0 (n : Int) = (List.range n).map fun (k : Nat) => PyData.int (k : Int) := by simp [rangeD]
theorem xmap_range {h : D → Option D} (n : Nat) (f : Nat → D) (hl : n ≤ LIM) (hx : ∀ i, i < n → h (.int (i : Int)) = some (f i)) : xmap h (some (rangeD 0 (n : Int))) = some (.list ((List.range n).map f)) := by
  rw [rangeD_map]
  exact xmap_of _ f (List.range n) (by simpa using hl) fun i hi => hx i (List.mem_range.mp hi)
theorem xlc_range {h : D → Option (Option D)} (n : Nat) (p : Nat → Bool) (f : Nat → D) (hl : n ≤ LIM) (hx : ∀ i, i < n → h (.int (i : Int)) = some (if p i then some (f i) else none)) : xlc h (some (rangeD 0 (n : Int))) = some (.list (((List.range n).filter p).map f)) := by
  rw [rangeD_map]
  exact xlc_of _ p f (List.range n) (by simpa using hl) fun i hi => hx i (List.mem_range.mp hi)
/-! loops -/
theorem fold_inv {S : Type} {step : S → D → Option S} (I : Nat → S → Prop) : ∀ (ds : List D) (s : S) (k : Nat), I k s → (∀ i d s, ds[i]? = some d → I (k + i) s → ∃ s', step s d = some s' ∧ I (k + i + 1) s') → ∃ s', fold step ds s = some s' ∧ I (k + ds.length) s'
  | [], s, k, h, _ => ⟨s, rfl, h⟩
  | d :: r, s, k, h, hs => by
    obtain ⟨s1, h1, h2⟩ := hs 0 d s rfl h
    obtain ⟨s', h3, h4⟩ := fold_inv I r s1 (k + 1) h2 (fun i d' s' hd hp => by
      have := hs (i + 1) d' s' (by simpa using hd) (by rw [show k + (i + 1) = k + 1 + i by omega]; exact hp)
      rw [show k + (i + 1) + 1 = k + 1 + i + 1 by omega] at this
      exact this)
    exact ⟨s', by simp only [fold, h1, Option.bind_some, h3], by rw [List.length_cons, show k + (r.length + 1) = k + 1 + r.length by omega]; exact h4⟩
theorem fold_range {S : Type} {step : S → D → Option S} (I : Nat → S → Prop) (n : Nat) (s : S) (h0 : I 0 s) (hs : ∀ i s, i < n → I i s → ∃ s', step s (.int (i : Int)) = some s' ∧ I (i + 1) s') : ∃ s', fold step (rangeD 0 (n : Int)) s = some s' ∧ I n s' := by
  have := fold_inv (step := step) I (rangeD 0 (n : Int)) s 0 h0 (fun i d s hd hi => by
    obtain ⟨hlt, rfl⟩ := rng_at hd
    rw [Nat.zero_add] at hi ⊢
    exact hs i s hlt hi)
  rwa [rng_len, Nat.zero_add] at this
theorem fold_map {α S : Type} {step : S → D → Option S} (en : α → D) (I : Nat → S → Prop) (xs : List α) (s : S) (h0 : I 0 s) (hs : ∀ i (h : i < xs.length) s, I i s → ∃ s', step s (en xs[i]) = some s' ∧ I (i + 1) s') : ∃ s', fold step (xs.map en) s = some s' ∧ I xs.length s' := by
  have := fold_inv (step := step) I (xs.map en) s 0 h0 (fun i d s hd hi => by
    rw [Nat.zero_add] at hi ⊢
    simp only [List.getElem?_map, Option.map_eq_some_iff] at hd
    obtain ⟨x, hx, rfl⟩ := hd
    obtain ⟨hlt, hx⟩ := List.getElem?_eq_some_iff.mp hx
    rw [← hx]
    exact hs i hlt s hi)
  rwa [List.length_map, Nat.zero_add] at this
/-- a fold that is a plain one -/
theorem fold_eq {α S σ : Type} {step : S → D → Option S} (en : α → D) (eS : σ → S) (f : σ → α → σ) : ∀ (xs : List α) (s : σ), (∀ s, ∀ x ∈ xs, step (eS s) (en x) = some (eS (f s x))) → fold step (xs.map en) (eS s) = some (eS (xs.foldl f s))
  | [], s, _ => rfl
  | x :: r, s, h => by
    simp only [List.map_cons, fold, h s x List.mem_cons_self, Option.bind_some, List.foldl_cons]
    exact fold_eq en eS f r (f s x) fun s y hy => h s y (List.mem_cons_of_mem _ hy)
/-- a loop with an early return: run to the end, or stopped at the first item that returns -/
theorem foldC_run {S : Type} {step : S → D → Option (Ct S)} (I : Nat → S → Prop) (W : D → Prop) : ∀ (ds : List D) (s : S) (k : Nat), I k s → (∀ i d s, ds[i]? = some d → I (k + i) s → (∃ s', step s d = some (.nx s') ∧ I (k + i + 1) s') ∨ ∃ r, step s d = some (.rt r) ∧ W r) → (∃ s', foldC step ds s = some (.nx s') ∧ I (k + ds.length) s') ∨ ∃ r, foldC step ds s = some (.rt r) ∧ W r
  | [], s, k, h, _ => .inl ⟨s, rfl, h⟩
  | d :: r, s, k, h, hs => by
    rcases hs 0 d s rfl h with ⟨s1, h1, h2⟩ | ⟨x, h1, h2⟩
    · rcases foldC_run I W r s1 (k + 1) h2 (fun i d' s' hd hp => by
        have := hs (i + 1) d' s' (by simpa using hd) (by rw [show k + (i + 1) = k + 1 + i by omega]; exact hp)
        rw [show k + (i + 1) + 1 = k + 1 + i + 1 by omega] at this
        exact this) with ⟨s', h3, h4⟩ | ⟨x, h3, h4⟩
      · exact .inl ⟨s', by simp only [foldC, h1, Option.bind_some, h3], by rw [List.length_cons, show k + (r.length + 1) = k + 1 + r.length by omega]; exact h4⟩
      · exact .inr ⟨x, by simp only [foldC, h1, Option.bind_some, h3], h4⟩
    · exact .inr ⟨x, by simp only [foldC, h1, Option.bind_some], h2⟩
theorem foldC_range {S : Type} {step : S → D → Option (Ct S)} (I : Nat → S → Prop) (W : D → Prop) (n : Nat) (s : S) (h0 : I 0 s) (hs : ∀ i s, i < n → I i s → (∃ s', step s (.int (i : Int)) = some (.nx s') ∧ I (i + 1) s') ∨ ∃ r, step s (.int (i : Int)) = some (.rt r) ∧ W r) : (∃ s', foldC step (rangeD 0 (n : Int)) s = some (.nx s') ∧ I n s') ∨ ∃ r, foldC step (rangeD 0 (n : Int)) s = some (.rt r) ∧ W r := by
  have := foldC_run (step := step) I W (rangeD 0 (n : Int)) s 0 h0 (fun i d s hd hi => by
    obtain ⟨hlt, rfl⟩ := rng_at hd
    rw [Nat.zero_add] at hi ⊢
    exact hs i s hlt hi)
  rwa [rng_len, Nat.zero_add] at this
/-- old lemmas -/
theorem qc_of {fn : List T → Option T} {ts : List T} {d : D} (h : callT fn ts = some (.p d)) : qc fn ts = some d := by simp [qc, h]
end C
/-! C2: equality of plain data; old lemmas at the plain code. -/
namespace C
open PySem PySem.Spec PyProof.Rows L2 M N B

/-- no truths, no dicts; at most n deep -/
def Pln : Nat → D → Prop
  | _, .int _ => True
  | _, .none => True
  | _, .str x => PyData.strOk x = true
  | n + 1, .tuple ds => ∀ d ∈ ds, Pln n d
  | n + 1, .list ds => ∀ d ∈ ds, Pln n d
  | _, _ => False
theorem Pln.mono : ∀ {n m : Nat} {d : D}, Pln n d → n ≤ m → Pln m d := by
  intro n
  induction n with
  | zero => intro m d h _; cases d <;> cases m <;> simp_all [Pln]
  | succ n ih =>
    intro m d h hm
    cases m with
    | zero => omega
    | succ m =>
      cases d with
      | tuple ds => exact fun x hx => ih (h x hx) (by omega)
      | list ds => exact fun x hx => ih (h x hx) (by omega)
      | _ => simp_all [Pln]
theorem lay_all {n : Nat} (ih : ∀ d, Pln n d → d.canLay0 = true ∧ d.depth ≤ n) : ∀ ds : List D, (∀ d ∈ ds, Pln n d) → PyData.canLayAll0 ds = true ∧ PyData.depthAll ds ≤ n
  | [], _ => by simp [PyData.canLayAll0, PyData.depthAll]
  | d :: r, h => by
    have h1 := ih d (h d List.mem_cons_self)
    have h2 := lay_all ih r fun x hx => h x (List.mem_cons_of_mem _ hx)
    simp only [PyData.canLayAll0, PyData.depthAll, h1.1, h2.1, Bool.and_self, true_and]
    omega
theorem Pln.lay : ∀ {n : Nat} (d : D), Pln n d → d.canLay0 = true ∧ d.depth ≤ n := by
  intro n
  induction n with
  | zero => intro d h; cases d <;> simp_all [Pln, PyData.canLay0, PyData.depth]
  | succ n ih =>
    intro d h
    cases d with
    | tuple ds => have := lay_all ih ds h; simp only [PyData.canLay0, PyData.depth]; exact ⟨this.1, by omega⟩
    | list ds => have := lay_all ih ds h; simp only [PyData.canLay0, PyData.depth]; exact ⟨this.1, by omega⟩
    | _ => simp_all [Pln, PyData.canLay0, PyData.depth]
theorem Pln.shaped {n : Nat} {d : D} (h : Pln n d) (hn : n ≤ 64) : SeqAt.shaped d = true := by
  have := h.lay
  unfold SeqAt.shaped
  simp only [Bool.and_eq_true, decide_eq_true_eq]
  exact ⟨this.1, by omega⟩
theorem eqv_all {n : Nat} (ih : ∀ d e, Pln n d → Pln n e → (PyData.eqv d e = true ↔ d = e)) : ∀ ds es : List D, (∀ d ∈ ds, Pln n d) → (∀ d ∈ es, Pln n d) → (PyData.eqvAll ds es = true ↔ ds = es)
  | [], [], _, _ => by simp [PyData.eqvAll]
  | [], _ :: _, _, _ => by simp [PyData.eqvAll]
  | _ :: _, [], _, _ => by simp [PyData.eqvAll]
  | d :: r, e :: t, h, h' => by
    have h1 := ih d e (h d List.mem_cons_self) (h' e List.mem_cons_self)
    have h2 := eqv_all ih r t (fun x hx => h x (List.mem_cons_of_mem _ hx)) fun x hx => h' x (List.mem_cons_of_mem _ hx)
    simp only [PyData.eqvAll, Bool.and_eq_true, h1, h2, List.cons.injEq]
theorem eqv_iff : ∀ {n : Nat} (d e : D), Pln n d → Pln n e → (PyData.eqv d e = true ↔ d = e) := by
  intro n
  induction n with
  | zero => intro d e h h'; cases d <;> cases e <;> simp_all [Pln, PyData.eqv]
  | succ n ih =>
    intro d e h h'
    cases d with
    | tuple ds =>
      cases e with
      | tuple es => simp only [PyData.eqv, PyData.tuple.injEq]; exact eqv_all ih ds es h h'
      | _ => simp_all [Pln, PyData.eqv]
    | list ds =>
      cases e with
      | list es => simp only [PyData.eqv, PyData.list.injEq]; exact eqv_all ih ds es h h'
      | _ => simp_all [Pln, PyData.eqv]
    | _ => cases e <;> simp_all [Pln, PyData.eqv]
section
variable {n : Nat} {d e : D}
theorem op_eq (p : Pln n d) (q : Pln n e) (hn : n ≤ 64 := by decide) : op2 M.eqT d e = some (.bool (PyData.eqv d e)) := by
  simp [op2, M.eqT, p.shaped hn, q.shaped hn]
theorem op_ne (p : Pln n d) (q : Pln n e) (hn : n ≤ 64 := by decide) : op2 M.neT d e = some (.bool (!PyData.eqv d e)) := by
  simp [op2, M.neT, p.shaped hn, q.shaped hn]
theorem c_eq {P : Prop} [Decidable P] (p : Pln n d) (q : Pln n e) (h : d = e ↔ P) (hn : n ≤ 64 := by decide) : op2 M.eqT d e = some (.bool (decide P)) := by
  rw [op_eq p q hn]
  congr 2
  have := eqv_iff d e p q
  rw [Bool.eq_iff_iff, this, decide_eq_true_eq, h]
theorem c_ne {P : Prop} [Decidable P] (p : Pln n d) (q : Pln n e) (h : d = e ↔ P) (hn : n ≤ 64 := by decide) : op2 M.neT d e = some (.bool (!decide P)) := by
  rw [op_ne p q hn]
  congr 2
  have := eqv_iff d e p q
  rw [Bool.eq_iff_iff, Bool.not_eq_true', Bool.not_eq_true', Bool.eq_false_iff, Bool.eq_false_iff, ne_eq, ne_eq, this, decide_eq_true_eq, h]
theorem c_eq_self (p : Pln n d) (hn : n ≤ 64 := by decide) : op2 M.eqT d d = some (.bool true) := by rw [c_eq (P := True) p p (by simp) hn]; rfl
theorem c_ne_self (p : Pln n d) (hn : n ≤ 64 := by decide) : op2 M.neT d d = some (.bool false) := by rw [c_ne (P := True) p p (by simp) hn]; rfl
end
theorem pln_ints (xs : List Int) : ∀ d ∈ enI xs, Pln 0 d := by
  intro d hd
  unfold enI at hd
  obtain ⟨x, _, rfl⟩ := List.mem_map.mp hd
  trivial
theorem pln_Q (q : Rat) : Pln 1 (enQ q) := by
  intro d hd
  simp at hd
  rcases hd with rfl | rfl <;> trivial
theorem pln_B (b : Buy) : Pln 2 (enB b) := by
  intro d hd
  simp at hd
  rcases hd with rfl | rfl
  · exact pln_ints b.1
  · exact pln_ints b.2
theorem pln_Bk (bk : List Buy) : Pln 3 (enBk bk) := by
  intro d hd
  obtain ⟨b, _, rfl⟩ := List.mem_map.mp hd
  exact pln_B b
theorem enI_inj {xs ys : List Int} (h : enI xs = enI ys) : xs = ys := by
  unfold enI at h
  exact (List.map_inj_right (by intro a b e; cases e; rfl)).mp h
theorem enQ_inj {p q : Rat} (h : enQ p = enQ q) : p = q := by
  unfold enQ at h
  simp at h
  exact Rat.ext h.1 (by exact_mod_cast h.2)
theorem enB_inj {a b : Buy} (h : enB a = enB b) : a = b := by
  unfold enB at h
  simp at h
  exact Prod.ext (enI_inj h.1) (enI_inj h.2)
theorem ne_Q (p q : Rat) : op2 M.neT (enQ p) (enQ q) = some (.bool (!decide (p = q))) := c_ne (pln_Q p) (pln_Q q) ⟨enQ_inj, fun h => by rw [h]⟩
theorem eq_Q (p q : Rat) : op2 M.eqT (enQ p) (enQ q) = some (.bool (decide (p = q))) := c_eq (pln_Q p) (pln_Q q) ⟨enQ_inj, fun h => by rw [h]⟩
theorem one_Q : PyData.tuple [.int 1, .int 1] = enQ 1 := rfl
theorem zero_Q : PyData.tuple [.int 0, .int 1] = enQ 0 := rfl
/-! the law's draws -/
theorem p_cell (ns : List Int) (k : Int) (hk : 0 ≤ k) : ∃ c, P.law_cell_at ns (.int k) = some (.int c) := by
  obtain ⟨c, h⟩ := c_cell_at ns k hk
  exact ⟨c, qc_of h⟩
theorem p_draws (cell many base : Int) (hm : 0 ≤ many := by decide) (hm2 : many ≤ 1000 := by decide) (hb : 0 < base := by decide) (hb2 : base < 2 ^ 60 := by decide) :
    ∃ xs : List Int, P.law_draws (.int cell) (.int many) (.int base) = some (.list (enI xs)) ∧ xs.length = many.toNat ∧ ∀ x ∈ xs, 0 ≤ x ∧ x < base := by
  obtain ⟨xs, h, h2⟩ := c_draws cell many base hm hm2 hb hb2
  exact ⟨xs, qc_of h, h2⟩
theorem p_a_book (ns : List Int) (at' most : Int) (h0 : 0 ≤ at' := by decide) (hm : 1 ≤ most := by decide) (hm2 : most ≤ 100 := by decide) :
    ∃ (n : Nat) (bk : List Buy), P.law_a_book ns (.int at') (.int most) = some (enBk bk) ∧ ValidBook n bk ∧ (bk.length : Int) ≤ most := by
  obtain ⟨n, bk, h, h2⟩ := a_book ns at' most h0 hm hm2
  exact ⟨n, bk, qc_of h, h2⟩
/-- an item of a list of ints -/
theorem at_ex {xs : List Int} {i : Int} (h0 : 0 ≤ i) (h1 : i < xs.length) : ∃ x ∈ xs, atI (enI xs) i = some (.int x) := atI_ex h0 h1
theorem small_of {j : Int} (h1 : 0 ≤ j) (h2 : j ≤ 1000000) : smallI j := ⟨by omega, h2⟩
theorem lim_of {n : Nat} (h : n ≤ 1000000) : n ≤ LIM := h
theorem atB {bk : List Buy} {k : Nat} (h : k < bk.length) : atI (bk.map enB) (k : Int) = some (enB bk[k]) := by
  rw [atI_lt (by omega) (by simpa using h)]
  simp
end C
/-! C3: costs of valid books; leaks told otherwise (k36). -/
namespace C
open PySem PySem.Spec PyProof.Rows L2 M N B

theorem dot_nn : ∀ {ps as : List Int}, (∀ p ∈ ps, 0 ≤ p) → (∀ a ∈ as, 0 ≤ a) → 0 ≤ dot ps as
  | [], _, _, _ => by simp [dot]
  | _ :: _, [], _, _ => by simp [dot]
  | p :: ps, a :: as, h1, h2 => by
    have := dot_nn (fun x hx => h1 x (List.mem_cons_of_mem _ hx)) (fun x hx => h2 x (List.mem_cons_of_mem _ hx)) (ps := ps) (as := as)
    have := Int.mul_nonneg (h1 p List.mem_cons_self) (h2 a List.mem_cons_self)
    simp only [dot]; omega
theorem dot_pos : ∀ {ps as : List Int}, ps.length = as.length → (∀ p ∈ ps, 1 ≤ p) → (∀ a ∈ as, 0 ≤ a) → (∃ a ∈ as, 0 < a) → 0 < dot ps as
  | [], [], _, _, _, h => by simp at h
  | [], _ :: _, h, _, _, _ => by simp at h
  | _ :: _, [], h, _, _, _ => by simp at h
  | p :: ps, a :: as, hl, h1, h2, h3 => by
    have hp := h1 p List.mem_cons_self
    have ha := h2 a List.mem_cons_self
    have r0 := dot_nn (ps := ps) (as := as) (fun x hx => by have := h1 x (List.mem_cons_of_mem _ hx); omega) (fun x hx => h2 x (List.mem_cons_of_mem _ hx))
    simp only [dot]
    by_cases h : 0 < a
    · have := Int.mul_pos (show 0 < p by omega) h; omega
    · have h0 : a = 0 := by omega
      subst h0
      have := dot_pos (ps := ps) (as := as) (by simpa using hl) (fun x hx => h1 x (List.mem_cons_of_mem _ hx)) (fun x hx => h2 x (List.mem_cons_of_mem _ hx)) (by
        obtain ⟨x, hx, hx0⟩ := h3
        rcases List.mem_cons.mp hx with rfl | hx
        · omega
        · exact ⟨x, hx, hx0⟩)
      omega
theorem dot_le {M N : Int} (hM : 0 ≤ M) (hN : 0 ≤ N) : ∀ {ps as : List Int}, (∀ p ∈ ps, 0 ≤ p ∧ p ≤ M) → (∀ a ∈ as, 0 ≤ a ∧ a ≤ N) → dot ps as ≤ ps.length * (M * N)
  | [], _, _, _ => by simp [dot]
  | _ :: _, [], _, _ => by simp only [dot]; exact Int.mul_nonneg (by simp; omega) (Int.mul_nonneg hM hN)
  | p :: ps, a :: as, h1, h2 => by
    have := dot_le hM hN (fun x hx => h1 x (List.mem_cons_of_mem _ hx)) (fun x hx => h2 x (List.mem_cons_of_mem _ hx)) (ps := ps) (as := as)
    have a1 := h1 p List.mem_cons_self
    have a2 := h2 a List.mem_cons_self
    have : p * a ≤ M * N := Int.mul_le_mul a1.2 a2.2 a2.1 hM
    simp only [dot, List.length_cons, Int.natCast_add, Int.add_mul]
    omega
/-- what costs of a valid book come to -/
theorem _root_.B.ValidBook.cost {n : Nat} {bk : List Buy} (v : ValidBook n bk) {b c : Buy} (hb : b ∈ bk) (hc : c ∈ bk) : 0 ≤ dot b.1 c.2 ∧ dot b.1 c.2 ≤ 6000000000000 := by
  have gb := v.all b hb
  have gc := v.all c hc
  refine ⟨dot_nn (fun p hp => by have := gb.pr p hp; omega) fun a ha => (gc.am a ha).1, ?_⟩
  have := dot_le (M := 1000000) (N := 1000000) (by decide) (by decide) (ps := b.1) (as := c.2) (fun p hp => by have := gb.pr p hp; omega) gc.am
  have h6 := v.n6
  rw [gb.lp] at this
  have : (n : Int) * (1000000 * 1000000) ≤ 6 * (1000000 * 1000000) := by omega
  omega
theorem _root_.B.ValidBook.own {n : Nat} {bk : List Buy} (v : ValidBook n bk) {b : Buy} (hb : b ∈ bk) : 0 < dot b.1 b.2 := by
  have gb := v.all b hb
  exact dot_pos (by rw [gb.lp, gb.la]) (fun p hp => (gb.pr p hp).1) (fun a ha => (gb.am a ha).1) gb.ps
theorem cM_eq {bk : List Buy} {i j : Nat} (hi : i < bk.length) (hj : j < bk.length) : cM bk i j = dot bk[i].1 bk[j].2 := by
  unfold cM
  rw [getD_lt hi, getD_lt hj]
theorem _root_.B.ValidBook.priced {n : Nat} {bk : List Buy} (v : ValidBook n bk) (h : bk.length ≤ 1000) : Priced bk := ⟨h, fun b hb => by
  have gb := v.all b hb
  have := v.n6
  exact ⟨by rw [gb.lp]; omega, fun p hp => by have := gb.pr p hp; omega⟩⟩
theorem _root_.B.ValidBook.costOk {n : Nat} {bk : List Buy} (v : ValidBook n bk) (h : bk.length ≤ 100) : CostOk bk := by
  refine ⟨h, v.priced (by omega), fun i hi => ?_, fun i j hi hj => ?_, fun i j hi hj => ?_⟩
  · rw [cM_eq hi hi]; exact v.own (List.getElem_mem hi)
  · rw [cM_eq hi hj]; exact (v.cost (List.getElem_mem hi) (List.getElem_mem hj)).1
  · rw [cM_eq hi hj]
    have := v.cost (List.getElem_mem hi) (List.getElem_mem hj)
    have h2 : (dot bk[i].1 bk[j].2).natAbs < 2 ^ 43 := by omega
    exact Nat.lt_of_lt_of_le h2 (Nat.pow_le_pow_right (by decide) (by decide))
/-! ### rounds under other numbers -/
theorem reach_map {W W' : Nat → Nat → Prop} (f : Nat → Nat) (h : ∀ a b, W a b → W' (f a) (f b)) {a b : Nat} (r : Reach W a b) : Reach W' (f a) (f b) := by
  induction r with
  | refl => exact .refl
  | step _ w ih => exact .step ih (h _ _ w)
theorem cyc_map {n m : Nat} {S S' : MF} {c : Rat} (f : Nat → Nat) (hf : ∀ i, i < n → f i < m) (hi : ∀ i j, i < n → j < n → i ≠ j → f i ≠ f j) (hs : ∀ i j, i < n → j < n → S' (f i) (f j) = S i j) (h : Cyc n S c) : Cyc m S' c := by
  have he : ∀ a b, Ed n S c a b → Ed m S' c (f a) (f b) := fun a b ⟨h1, h2, h3, h4⟩ => ⟨hf a h1, hf b h2, hi a b h1 h2 h3, by rw [hs a b h1 h2]; exact h4⟩
  obtain ⟨i, j, h1, h2⟩ := h
  exact ⟨f i, f j, he _ _ h1, reach_map f he h2⟩
theorem share_eq {s s' : Rat} {A A' : Rat → Prop} (h : ∀ c, s ≤ c ↔ A c) (h' : ∀ c, s' ≤ c ↔ A' c) (e : ∀ c, A c ↔ A' c) : s = s' := by
  have h1 := (h s').mpr ((e s').mpr ((h' s').mp (by grind)))
  have h2 := (h' s).mpr ((e s).mp ((h s).mp (by grind)))
  grind
theorem share_le {s s' : Rat} {A A' : Rat → Prop} (h : ∀ c, s ≤ c ↔ A c) (h' : ∀ c, s' ≤ c ↔ A' c) (e : ∀ c, A' c → A c) : s ≤ s' := (h s').mpr (e _ ((h' s').mp (by grind)))
theorem shr_at {bk : List Buy} {i j : Nat} (hi : i < bk.length) (hj : j < bk.length) : shr bk i j = Rat.divInt (dot bk[i].1 bk[j].2) (dot bk[i].1 bk[i].2) := by
  unfold shr; rw [cM_eq hi hj, cM_eq hi hi]
theorem shr_own {n : Nat} {bk : List Buy} (v : ValidBook n bk) {i : Nat} (hi : i < bk.length) {b : Buy} (hb : bk[i] = b) : Rat.divInt (dot b.1 b.2) (dot b.1 b.2) = 1 := by
  subst hb
  have := v.own (List.getElem_mem hi)
  rw [Rat.divInt_self' (by omega)]
theorem dot_mul (k : Int) : ∀ ps as : List Int, dot (ps.map fun p => p * k) as = k * dot ps as
  | [], _ => by simp [dot]
  | _ :: _, [] => by simp [dot]
  | p :: ps, a :: as => by simp only [List.map_cons, dot, dot_mul k ps as]; grind
theorem divInt_mul {k a b : Int} (hk : k ≠ 0) : Rat.divInt (k * a) (k * b) = Rat.divInt a b := Rat.divInt_mul_left hk
end C
/-! C4: the law k36. -/
namespace C
open PySem PySem.Spec PyProof.Rows L2 M N B

theorem p_leak {bk : List Buy} (h : CostOk bk) (h2 : 2 ≤ bk.length) : ∃ share p, P.leak (enBk bk) = some (.tuple [enQ share, .list (enI (natI p))]) ∧ LeakOk bk.length (shr bk) share p := by
  obtain ⟨s, p, h, h'⟩ := leak bk h h2
  exact ⟨s, p, qc_of h, h'⟩
theorem less_pos {a b c d : Int} (hb : 0 < b) (hd : 0 < d) : a * d < c * b ↔ Rat.divInt a b < Rat.divInt c d := by
  have hb' : (0 : Rat) < b := by exact_mod_cast hb
  have hd' : (0 : Rat) < d := by exact_mod_cast hd
  rw [Rat.divInt_eq_div, Rat.divInt_eq_div, Rat.div_lt_iff hb', show (c : Rat) / d * b = (c * b) / d by rw [Rat.div_def, Rat.div_def]; grind, Rat.lt_div_iff hd']
  exact_mod_cast Iff.rfl
theorem p_less {a b c d : Int} (h1 : mulOk a d = true) (h2 : mulOk c b = true) : P.law_less (.tuple [.int a, .int b]) (.tuple [.int c, .int d]) = some (.bool (decide (a * d < c * b))) := by
  unfold P.law_less
  simp [atI, ixN, h1, h2]
/-- the law's share of a round: the greatest of its steps -/
theorem p_a_share {bk : List Buy} (h : CostOk bk) (p : List Nat) (hp : ∀ x ∈ p, x < bk.length) (hl : p.length ≤ 1000) :
    ∃ a b : Int, P.law_a_share (enC bk) (.list (enI (natI p))) = some (.tuple [.int a, .int b]) ∧ 0 < b ∧ Sz 900 a ∧ Sz 900 b ∧
      (∀ k, k < p.length → shr bk (p.getD (if k = 0 then p.length - 1 else k - 1) 0) (p.getD k 0) ≤ Rat.divInt a b) ∧ (Rat.divInt a b = 0 ∨ ∃ k, k < p.length ∧ Rat.divInt a b = shr bk (p.getD (if k = 0 then p.length - 1 else k - 1) 0) (p.getD k 0)) := by
  have hat : ∀ k : Nat, k < p.length → atI (enI (natI p)) (k : Int) = some (.int (p.getD k 0 : Nat)) := by
    intro k hk
    rw [atI_lt (by omega) (by simp [enI, natI]; exact hk)]
    simp [enI, natI, hk]
  have hat1 : ∀ k : Nat, k < p.length → atI (enI (natI p)) ((k : Int) - 1) = some (.int (p.getD (if k = 0 then p.length - 1 else k - 1) 0 : Nat)) := by
    intro k hk
    by_cases h0 : k = 0
    · subst h0
      have hx : ixN p.length (((0 : Nat) : Int) - 1) = some (p.length - 1) := by
        unfold ixN
        simp
        omega
      simp only [if_true, atI, enI, natI, List.length_map, hx]
      simp [show p.length - 1 < p.length by omega]
    · rw [if_neg h0, show ((k : Int) - 1) = ((k - 1 : Nat) : Int) by omega]
      exact hat (k - 1) (by omega)
  have hin : ∀ k, k < p.length → p.getD k 0 < bk.length := fun k hk => by
    apply hp
    rw [List.getD_eq_getElem?_getD, List.getElem?_eq_getElem hk]
    exact List.getElem_mem hk
  unfold P.law_a_share
  have hsm : smallI (p.length : Int) := small_of (by omega) (by omega)
  simp only [c_xtup, c_xseq1, c_xseq0, Option.map_some, Option.bind_some, c_xf1, ev_lenl, ev_pure, enI_length, natI, List.length_map, c_irng1, hsm, if_true]
  obtain ⟨s, h1, h2⟩ := fold_range (step := fun s d => P.law_a_share_L1 (.list (enI (natI p))) (enC bk) s d) (fun i s => ∃ a b : Int, s = .tuple [.int a, .int b] ∧ 0 < b ∧ Sz 900 a ∧ Sz 900 b ∧
      (∀ k, k < i → shr bk (p.getD (if k = 0 then p.length - 1 else k - 1) 0) (p.getD k 0) ≤ Rat.divInt a b) ∧ (Rat.divInt a b = 0 ∨ ∃ k, k < i ∧ Rat.divInt a b = shr bk (p.getD (if k = 0 then p.length - 1 else k - 1) 0) (p.getD k 0))) p.length (.tuple [.int 0, .int 1])
    ⟨0, 1, rfl, by decide, by unfold Sz; exact Nat.pow_pos (by decide), by unfold Sz; exact Nat.one_lt_two_pow (by decide), fun k hk => by omega, .inl (by rfl)⟩ (by
      rintro i _ hi ⟨a, b, rfl, hb, sa, sb, h1, h2⟩
      obtain ⟨o, ho⟩ : ∃ o, p.getD (if i = 0 then p.length - 1 else i - 1) 0 = o := ⟨_, rfl⟩
      obtain ⟨e, he⟩ : ∃ e, p.getD i 0 = e := ⟨_, rfl⟩
      have hob : o < bk.length := by rw [← ho]; apply hin; split <;> omega
      have heb : e < bk.length := by rw [← he]; exact hin i hi
      have x1 := hat1 i hi
      rw [ho] at x1
      have x2 := hat i hi
      rw [he] at x2
      have r1 : op2 idxT (enC bk) (.int (o : Int)) = some (.list (enI (cRow bk o))) := by simp [op2, ix_enC hob]
      have r2 : op2 idxT (.list (enI (cRow bk o))) (.int (e : Int)) = some (.int (cM bk o e)) := by
        have := ix_cRow (bk := bk) (i := o) (j := e) heb; rw [op2, this]; rfl
      have r3 : op2 idxT (.list (enI (cRow bk o))) (.int (o : Int)) = some (.int (cM bk o o)) := by
        have := ix_cRow (bk := bk) (i := o) (j := o) hob; rw [op2, this]; rfl
      have sz1 := h.sz o e hob heb
      have sz2 := h.sz o o hob hob
      have hpos := h.pos o hob
      have hl := p_less (a := a) (b := b) (c := cM bk o e) (d := cM bk o o) (mulOk_sz sa sz2 (by decide)) (mulOk_sz sz1 sb (by decide))
      have hiff := less_pos (a := a) (c := cM bk o e) hb hpos
      have hshr : shr bk o e = Rat.divInt (cM bk o e) (cM bk o o) := rfl
      unfold P.law_a_share_L1
      by_cases hlt : a * cM bk o o < cM bk o e * b
      · refine ⟨.tuple [.int (cM bk o e), .int (cM bk o o)], by simp [x1, x2, r1, r2, r3, hl, hlt], _, _, rfl, hpos, sz1, sz2, fun k hk => ?_, .inr ⟨i, by omega, by rw [ho, he, hshr]⟩⟩
        have := hiff.mp hlt
        by_cases hki : k = i
        · subst hki; rw [ho, he, hshr]; grind
        · have := h1 k (by omega); grind
      · refine ⟨.tuple [.int a, .int b], by simp [x1, x2, r1, r2, r3, hl, hlt], _, _, rfl, hb, sa, sb, fun k hk => ?_, ?_⟩
        · have : ¬ Rat.divInt a b < Rat.divInt (cM bk o e) (cM bk o o) := fun z => hlt (hiff.mpr z)
          by_cases hki : k = i
          · subst hki; rw [ho, he, hshr]; grind
          · exact h1 k (by omega)
        · rcases h2 with h2 | ⟨k, hk, h2⟩
          · exact .inl h2
          · exact .inr ⟨k, by omega, h2⟩)
  obtain ⟨a, b, rfl, h2⟩ := h2
  refine ⟨a, b, ?_, h2⟩
  have h1' : fold (fun s d => P.law_a_share_L1 (.list (enI (p.map Nat.cast))) (enC bk) s d) (rangeD 0 (p.length : Int)) (.tuple [.int 0, .int 1]) = some (.tuple [.int a, .int b]) := h1
  first | exact h1 | (simp only [natI] at h1; simp [h1])
end C
/-! C5: the law k36, whole. -/
namespace C
open PySem PySem.Spec PyProof.Rows L2 M N B

/-- one told twice -/
theorem cyc_twice {n : Nat} {S S' : MF} {at' : Nat} {c : Rat} (ha : at' < n) (h1 : ∀ i j, i < n → j < n → S' i j = S i j) (h2 : ∀ i, i < n → S' i n = S i at') (h3 : ∀ j, j < n → S' n j = S at' j) (ho : S at' at' = 1) : Cyc (n + 1) S' c ↔ Cyc n S c ∨ 1 ≤ c := by
  constructor
  · intro h
    by_cases hc : 1 ≤ c
    · exact .inr hc
    · left
      refine cyc_map' (fun i => if i = n then at' else i) ?_ h
      intro a b ⟨e1, e2, e3, e4⟩
      by_cases ea : a = n
      · by_cases eb : b = n
        · omega
        · simp only [ea, eb, if_true, if_false]
          rw [ea, h3 b (by omega)] at e4
          exact ⟨ha, by omega, fun z => by subst z; rw [ho] at e4; exact hc e4, e4⟩
      · by_cases eb : b = n
        · simp only [ea, eb, if_true, if_false]
          rw [eb, h2 a (by omega)] at e4
          exact ⟨by omega, ha, fun z => by subst z; rw [ho] at e4; exact hc e4, e4⟩
        · simp only [ea, eb, if_false]
          rw [h1 a b (by omega) (by omega)] at e4
          exact ⟨by omega, by omega, e3, e4⟩
  · rintro (h | h)
    · exact cyc_map (fun i => i) (fun i hi => by omega) (fun i j _ _ hij => hij) (fun i j hi hj => h1 i j hi hj) h
    · refine ⟨at', n, ⟨by omega, by omega, by omega, by rw [h3 at' ha, ho]; exact h⟩, ?_⟩
      exact .step .refl ⟨by omega, by omega, by omega, by rw [h2 at' ha, ho]; exact h⟩
where
  cyc_map' {n m : Nat} {S S' : MF} {c : Rat} (f : Nat → Nat) (he : ∀ a b, Ed n S c a b → Ed m S' c (f a) (f b)) (h : Cyc n S c) : Cyc m S' c := by
    obtain ⟨i, j, h1, h2⟩ := h
    exact ⟨f i, f j, he _ _ h1, reach_map f he h2⟩
theorem steps_get {W : Nat → Nat → Prop} : ∀ {p : List Nat}, (∀ k, k + 1 < p.length → W (p.getD k 0) (p.getD (k + 1) 0)) → Steps W p
  | [], _ => trivial
  | [_], _ => trivial
  | a :: b :: r, h => ⟨by simpa using h 0 (by simp), steps_get (p := b :: r) fun k hk => by simpa using h (k + 1) (by simp at hk ⊢; omega)⟩
theorem get_steps {W : Nat → Nat → Prop} : ∀ {p : List Nat}, Steps W p → ∀ k, k + 1 < p.length → W (p.getD k 0) (p.getD (k + 1) 0)
  | [], _, k, h => by simp at h
  | [_], _, k, h => by simp at h
  | a :: b :: r, s, 0, _ => by simpa using s.1
  | a :: b :: r, s, k + 1, h => by simpa using get_steps (p := b :: r) s.2 k (by simp at h ⊢; omega)
theorem steps_reach {W : Nat → Nat → Prop} : ∀ {p : List Nat} {a b : Nat}, Steps W p → p.head? = some a → p.getLast? = some b → Reach W a b
  | [], _, _, _, h, _ => by simp at h
  | [x], a, b, _, h1, h2 => by simp at h1 h2; subst h1 h2; exact .refl
  | x :: y :: r, a, b, s, h1, h2 => by
    simp at h1
    subst h1
    have := steps_reach (p := y :: r) s.2 rfl (by simpa using h2)
    exact reach_trans (.step .refl s.1) this
end C
/-! C6: books in plain code. -/
namespace C
open PySem PySem.Spec PyProof.Rows L2 M N B

section
variable {bk bk' : List Buy} {b : Buy} {k : Nat} {xs : List Int}
theorem bk_ix (h : k < bk.length) : op2 idxT (enBk bk) (.int (k : Int)) = some (enB bk[k]) := by unfold enBk; rw [c_ixl, atB h]
theorem bk_last (h : bk ≠ []) : op2 idxT (enBk bk) (.int (-1)) = some (enB (bk.getLast h)) := by
  unfold enBk
  have hp : 0 < bk.length := List.length_pos_iff.mpr h
  have hx : ixN bk.length (-1) = some (bk.length - 1) := by unfold ixN; simp; omega
  simp only [c_ixl, atI, List.length_map, hx, Option.bind_some, List.getElem?_map]
  rw [List.getElem?_eq_getElem (by omega), ← List.getLast_eq_getElem (h := h)]; rfl
@[simp] theorem B_0 : op2 idxT (enB b) (.int 0) = some (.tuple (enI b.1)) := rfl
@[simp] theorem B_1 : op2 idxT (enB b) (.int 1) = some (.tuple (enI b.2)) := rfl
@[simp] theorem len_bk : lenT [.p (enBk bk)] = some (.p (.int bk.length)) := by unfold enBk; simp
theorem add_bk (h : bk.length + bk'.length ≤ LIM) : op2 addT (enBk bk) (enBk bk') = some (enBk (bk ++ bk')) := by
  unfold enBk; simp [h]
@[simp] theorem slice_bk {lo hi : Option Int} : sliceT (.p (enBk bk)) lo hi = some (.p (enBk (cutL bk lo hi))) := by
  unfold enBk; simp [cutL_enB]
theorem one_bk : PyData.list [enB b] = enBk [b] := rfl
theorem mk_B (b : Buy) : PyData.tuple [.tuple (enI b.1), .tuple (enI b.2)] = enB b := rfl
theorem mk_B' (xs ys : List Int) : PyData.tuple [.tuple (enI xs), .tuple (enI ys)] = enB (xs, ys) := rfl
@[simp] theorem un_B {R : Type} {f : D → D → Option R} : un2 (enB b) f = f (.tuple (enI b.1)) (.tuple (enI b.2)) := rfl
@[simp] theorem iseq_bk : iseq (some (enBk bk)) = some (bk.map enB) := rfl
theorem set_bk (h : k < bk.length) : setL (bk.map enB) (.int (k : Int)) (enB b) = some ((bk.set k b).map enB) := by
  unfold setL
  simp only [c_intD, Option.bind_some, List.length_map]
  rw [ixN_of (by omega) (by omega)]
  simp [List.map_set]
@[simp] theorem rev_bk : xrev (some (enBk bk)) = some (enBk bk.reverse) := by unfold enBk; simp
@[simp] theorem rev_enI : (enI xs).reverse = enI xs.reverse := by simp [enI]
theorem list_bk : PyData.list (bk.map enB) = enBk bk := rfl
theorem cut_from {α : Type} (xs : List α) (k : Nat) (h : k ≤ xs.length) : cutL xs (some (k : Int)) none = xs.drop k := by
  simp only [cutL, HT.sIx]
  rw [if_neg (by omega), show min (k : Int).toNat xs.length = k by omega]
  exact List.take_of_length_le (by simp)
theorem cut_upto {α : Type} (xs : List α) (k : Nat) : cutL xs none (some (k : Int)) = xs.take k := by
  rw [cut_to xs k (by omega)]; simp
theorem mulI_small {i j : Int} (h : i.natAbs < 2 ^ 64) : mulOk i j = true := mulOk_l h
theorem map_enI {h : D → Option D} (f : Int → Int) (xs : List Int) (hl : xs.length ≤ LIM) (hx : ∀ x ∈ xs, h (.int x) = some (.int (f x))) : xmap h (some (enI xs)) = some (.list (enI (xs.map f))) := by
  unfold enI
  rw [xmap_of PyData.int (fun x => .int (f x)) xs hl hx, List.map_map]; rfl
@[simp] theorem tup_enI : tupleT [.p (.list (enI xs))] = some (.p (.tuple (enI xs))) := rfl
end
/-! valid books made of others -/
theorem _root_.B.ValidBook.app {n : Nat} {bk : List Buy} (v : ValidBook n bk) {c : Buy} (g : Good n c) : ValidBook n (bk ++ [c]) :=
  ⟨v.n1, v.n6, by simp, fun b hb => by
    rcases List.mem_append.mp hb with z | z
    · exact v.all b z
    · simp at z; rw [z]; exact g⟩
theorem _root_.B.ValidBook.sub {n : Nat} {bk bk' : List Buy} (v : ValidBook n bk) (h : ∀ b ∈ bk', b ∈ bk) (h1 : 1 ≤ bk'.length) : ValidBook n bk' := ⟨v.n1, v.n6, h1, fun b hb => v.all b (h b hb)⟩
theorem _root_.B.Good.rev {n : Nat} {b c : Buy} (g : Good n b) (g' : Good n c) : Good n (b.1.reverse, c.2) :=
  ⟨by simp [g.lp], g'.la, fun p hp => g.pr p (by simpa using hp), g'.am, g'.ps⟩
theorem _root_.B.ValidBook.set {n : Nat} {bk : List Buy} (v : ValidBook n bk) {c : Buy} (g : Good n c) (k : Nat) : ValidBook n (bk.set k c) :=
  ⟨v.n1, v.n6, by simpa using v.ne, fun b hb => by
    rcases List.mem_or_eq_of_mem_set hb with z | z
    · exact v.all b z
    · rw [z]; exact g⟩
end C
/-! C7: k36 proved. -/
namespace C
open PySem PySem.Spec PyProof.Rows L2 M N B

theorem shr_great {n : Nat} {bk : List Buy} (v : ValidBook n bk) {at' : Nat} (ha : at' < bk.length) {by' : Int} (hb : by' ≠ 0) {i j : Nat} (hi : i < bk.length) (hj : j < bk.length) :
    shr (bk.set at' (bk[at'].1.map (fun p => p * by'), bk[at'].2)) i j = shr bk i j := by
  have e2 : ∀ k (hk : k < bk.length), ((bk.set at' (bk[at'].1.map (fun p => p * by'), bk[at'].2))[k]'(by simpa using hk)).2 = bk[k].2 := by
    intro k hk
    rw [List.getElem_set]
    split
    · rename_i h; subst h; rfl
    · rfl
  rw [shr_at (by simpa using hi) (by simpa using hj), shr_at hi hj, e2 i hi, e2 j hj]
  rw [List.getElem_set]
  split
  · rename_i h
    subst h
    simp only [dot_mul, divInt_mul hb]
  · rfl
theorem k36_true (ns : List Int) : Q.k36_law [.sc ns] = some (.p (.bool true)) := by
  obtain ⟨n, bk0, hb, v0, hlen⟩ := p_a_book ns 0 10
  have ne0 : bk0 ≠ [] := by intro z; have := v0.ne; simp [z] at this
  have h1 : 0 < bk0.length := v0.ne
  obtain ⟨bk, hbk⟩ : ∃ bk, bk = bk0 ++ [(bk0[0].1.reverse, (bk0.getLast ne0).2)] := ⟨_, rfl⟩
  have v : ValidBook n bk := by rw [hbk]; exact v0.app ((v0.all _ (List.getElem_mem h1)).rev (v0.all _ (List.getLast_mem ne0)))
  have hl2 : 2 ≤ bk.length := by rw [hbk]; simp; omega
  have hl11 : bk.length ≤ 11 := by rw [hbk]; simp; omega
  obtain ⟨m, hm⟩ : ∃ m, bk.length = m := ⟨_, rfl⟩
  have ok := v.costOk (by omega)
  obtain ⟨share, p, hleak, lk⟩ := p_leak ok hl2
  obtain ⟨c2, hc2⟩ := p_cell ns 2 (by decide)
  obtain ⟨picks, hpk, hpl, hpx⟩ := p_draws c2 4 1000
  have hpl : picks.length = 4 := hpl
  obtain ⟨q0, m0, a0⟩ := at_ex (xs := picks) (i := 0) (by decide) (by omega)
  obtain ⟨q1, m1, a1⟩ := at_ex (xs := picks) (i := 1) (by decide) (by omega)
  obtain ⟨at', hat⟩ : ∃ a : Nat, q0.fmod (bk.length : Int) = (a : Int) := ⟨(q0 % bk.length).toNat, by rw [fmod_pos (by omega)]; have := Int.emod_nonneg q0 (show (bk.length : Int) ≠ 0 by omega); omega⟩
  have hat2 : at' < bk.length := by
    have : q0.fmod (bk.length : Int) < bk.length := by rw [fmod_pos (by omega)]; exact Int.emod_lt_of_pos _ (by omega)
    omega
  have hm0 : (bk.length : Int) ≠ 0 := by omega
  obtain ⟨b, hbb⟩ : ∃ b, bk[at'] = b := ⟨_, rfl⟩
  have gb := v.all bk[at'] (List.getElem_mem hat2)
  rw [hbb] at gb
  have bne : b.1 ≠ [] := by intro z; have := gb.lp; rw [z] at this; have h' := v.n1; simp only [List.length_nil] at this; omega
  obtain ⟨mx, hmx⟩ := maxI_some bne
  have mxs := maxI_spec hmx
  have mxb := gb.pr mx mxs.1
  obtain ⟨t, ht⟩ : ∃ t, max 1 (min 90 ((1000000 : Int).fdiv mx)) = t := ⟨_, rfl⟩
  have hfd : (1000000 : Int).fdiv mx = 1000000 / mx := fdiv_pos (by omega)
  have hmm : mx * (1000000 / mx) ≤ 1000000 := Int.mul_ediv_self_le (by omega)
  have hdp : 1 ≤ 1000000 / mx := by rw [Int.le_ediv_iff_mul_le (by omega)]; omega
  have ht1 : 1 ≤ t ∧ t ≤ 90 ∧ t ≤ 1000000 / mx := by rw [← ht, hfd]; omega
  obtain ⟨by', hby⟩ : ∃ y, 1 + q1.fmod t = y := ⟨_, rfl⟩
  have hby2 : 1 ≤ by' ∧ by' ≤ t := by
    rw [← hby, fmod_pos (by omega)]
    have := Int.emod_nonneg q1 (show t ≠ 0 by omega)
    have := Int.emod_lt_of_pos q1 (show 0 < t by omega)
    omega
  have hbyp : ∀ x ∈ b.1, x * by' ≤ 1000000 := by
    intro x hx
    have := gb.pr x hx
    have h1 : x * by' ≤ mx * (1000000 / mx) := Int.mul_le_mul (mxs.2 x hx) (by omega) (by omega) (by omega)
    omega
  -- the great one
  obtain ⟨great, hg⟩ : ∃ g, g = bk.set at' (b.1.map (fun p => p * by'), b.2) := ⟨_, rfl⟩
  have gg : Good n (b.1.map (fun p => p * by'), b.2) := ⟨by rw [List.length_map]; exact gb.lp, gb.la, fun x hx => by
    obtain ⟨y, hy, rfl⟩ := List.mem_map.mp hx
    have := gb.pr y hy
    exact ⟨by have := Int.mul_le_mul (show (1 : Int) ≤ y by omega) (show (1 : Int) ≤ by' by omega) (by decide) (by omega); omega, hbyp y hy⟩, gb.am, gb.ps⟩
  have vg : ValidBook n great := by rw [hg]; exact v.set gg at'
  have lg : great.length = bk.length := by rw [hg]; simp
  obtain ⟨sg, pg, hlg, lkg⟩ := p_leak (vg.costOk (by omega)) (by omega)
  have esg : sg = share := share_eq lkg.cyc lk.cyc fun c => by
    rw [lg]
    have e : ∀ i j, i < bk.length → j < bk.length → shr great i j = shr bk i j := fun i j hi hj => by
      rw [hg, ← hbb]; exact shr_great v hat2 (by omega) hi hj
    exact ⟨cyc_map id (fun i h => h) (fun i j _ _ z => z) (fun i j hi hj => (e i j hi hj).symm), cyc_map id (fun i h => h) (fun i j _ _ z => z) fun i j hi hj => e i j hi hj⟩
  -- turned
  obtain ⟨rot, hr⟩ : ∃ r, r = bk.drop at' ++ bk.take at' := ⟨_, rfl⟩
  have lr : rot.length = bk.length := by rw [hr]; simp; omega
  have vr : ValidBook n rot := v.sub (fun x hx => by
    rw [hr] at hx
    rcases List.mem_append.mp hx with z | z
    · exact List.mem_of_mem_drop z
    · exact List.mem_of_mem_take z) (by omega)
  have rat : ∀ i (hi : i < bk.length), rot[i]'(by omega) = bk[if i + at' < bk.length then i + at' else i + at' - bk.length]'(by split <;> omega) := by
    intro i hi
    simp only [hr, List.getElem_append]
    split
    · rename_i z
      simp only [List.length_drop] at z
      simp only [List.getElem_drop]
      simp only [show i + at' < bk.length by omega, if_true]
      congr 1; omega
    · rename_i z
      simp only [List.length_drop] at z
      simp only [List.getElem_take, List.length_drop]
      simp only [show ¬ i + at' < bk.length by omega, if_false]
      congr 1; omega
  obtain ⟨sr, pr, hlr, lkr⟩ := p_leak (vr.costOk (by omega)) (by omega)
  have esr : sr = share := share_eq lkr.cyc lk.cyc fun c => by
    rw [lr]
    constructor
    · refine cyc_map (fun i => if i + at' < bk.length then i + at' else i + at' - bk.length) (fun i h => by split <;> omega) (fun i j _ _ z => by split <;> split <;> omega) fun i j hi hj => ?_
      rw [shr_at (by split <;> omega) (by split <;> omega), shr_at (by omega) (by omega), rat i hi, rat j hj]
    · refine cyc_map (fun i => if at' ≤ i then i - at' else i + bk.length - at') (fun i h => by split <;> omega) (fun i j _ _ z => by split <;> split <;> omega) fun i j hi hj => ?_
      have f : ∀ i (hi : i < bk.length), ∃ (h : (if at' ≤ i then i - at' else i + bk.length - at') < bk.length), rot[if at' ≤ i then i - at' else i + bk.length - at']'(by omega) = bk[i]'(by assumption) := by
        intro i hi
        have hx : (if at' ≤ i then i - at' else i + bk.length - at') < bk.length := by split <;> omega
        refine ⟨hx, ?_⟩
        rw [rat _ hx]
        congr 1
        split <;> split <;> omega
      obtain ⟨x1, x2⟩ := f i hi
      obtain ⟨y1, y2⟩ := f j hj
      rw [shr_at (by omega) (by omega), shr_at hi hj, x2, y2]
  -- one told twice
  obtain ⟨tw, htw⟩ : ∃ t, t = bk ++ [b] := ⟨_, rfl⟩
  have vt : ValidBook n tw := by rw [htw]; exact v.app gb
  have lt : tw.length = bk.length + 1 := by rw [htw]; simp
  obtain ⟨st, pt, hlt, lkt⟩ := p_leak (vt.costOk (by omega)) (by omega)
  have tat : ∀ i (hi : i < bk.length), tw[i]'(by omega) = bk[i] := fun i hi => by simp only [htw]; rw [List.getElem_append_left hi]
  have tan : tw[bk.length]'(by omega) = bk[at'] := by simp only [htw]; rw [List.getElem_append_right (by omega)]; simp [hbb]
  have est : ∀ c, st ≤ c ↔ share ≤ c ∨ 1 ≤ c := fun c => by
    rw [lkt.cyc c, lk.cyc c, lt]
    refine cyc_twice hat2 (fun i j hi hj => ?_) (fun i hi => ?_) (fun j hj => ?_) ?_
    · rw [shr_at (by omega) (by omega), shr_at hi hj, tat i hi, tat j hj]
    · rw [shr_at (by omega) (by omega), shr_at hi hat2, tat i hi, tan]
    · rw [shr_at (by omega) (by omega), shr_at hat2 hj, tat j hj, tan]
    · rw [shr_at hat2 hat2]; exact shr_own v hat2 rfl
  have est' : st = if 1 < share then 1 else share := by
    have e1 := est st
    have e2 := est 1
    have e3 := est share
    split <;> grind
  -- one left out
  obtain ⟨lo, hlo⟩ : ∃ l, l = bk.take at' ++ bk.drop (at' + 1) := ⟨_, rfl⟩
  have ll : lo.length = bk.length - 1 := by rw [hlo]; simp; omega
  have hleft : 2 < bk.length → ∃ sl pl, P.leak (enBk lo) = some (.tuple [enQ sl, .list (enI (natI pl))]) ∧ share ≤ sl ∧ SzQ 100000 sl := by
    intro h3
    have vl : ValidBook n lo := v.sub (fun x hx => by
      rw [hlo] at hx
      rcases List.mem_append.mp hx with z | z
      · exact List.mem_of_mem_take z
      · exact List.mem_of_mem_drop z) (by omega)
    have okl := vl.costOk (by omega)
    obtain ⟨sl, pl, h1, h2⟩ := p_leak okl (by omega)
    refine ⟨sl, pl, h1, share_le lk.cyc h2.cyc fun c => ?_, ?_⟩
    · rw [ll]
      refine cyc_map (fun i => if i < at' then i else i + 1) (fun i h => by split <;> omega) (fun i j _ _ z => by split <;> split <;> omega) fun i j hi hj => ?_
      have f : ∀ i (hi : i < bk.length - 1), ∃ (h : (if i < at' then i else i + 1) < bk.length), bk[if i < at' then i else i + 1]'h = lo[i]'(by omega) := by
        intro i hi
        refine ⟨by split <;> omega, ?_⟩
        simp only [hlo, List.getElem_append]
        split
        · rw [dif_pos (by simp; omega)]; simp
        · rw [dif_neg (by simp; omega)]
          simp only [List.getElem_drop]
          congr 1
          simp; omega
      obtain ⟨x1, x2⟩ := f i hi
      obtain ⟨y1, y2⟩ := f j hj
      rw [shr_at x1 y1, shr_at (by omega) (by omega), x2, y2]
    · exact leak_sz okl h2
  -- the round put in another order
  have rev_at : ∀ i (hi : i < bk.length), bk.reverse[bk.length - 1 - i]'(by simp; omega) = bk[i] := by
    intro i hi
    rw [List.getElem_reverse]
    congr 1; omega
  have vrev : ValidBook n bk.reverse := v.sub (fun x hx => by simpa using hx) (by simp; omega)
  have okr := vrev.costOk (by simp; omega)
  have hpl2 : p.length ≤ 1000 := by
    have := nodup_len lk.nd lk.lt
    omega
  obtain ⟨x, y, hsh, hy0, sx, sy, hs1, hs2⟩ := p_a_share okr (p.map fun k => bk.length - 1 - k) (fun z hz => by
    obtain ⟨w, hw, rfl⟩ := List.mem_map.mp hz
    have := lk.lt w hw
    simp; omega) (by simpa using hpl2)
  have gp : ∀ k, k < p.length → p.getD k 0 < bk.length := fun k hk => by
    apply lk.lt
    rw [List.getD_eq_getElem?_getD, List.getElem?_eq_getElem hk]
    exact List.getElem_mem hk
  have gm : ∀ k, k < p.length → (p.map fun k => bk.length - 1 - k).getD k 0 = bk.length - 1 - p.getD k 0 := fun k hk => by
    simp [List.getElem?_eq_getElem hk]
  have srev : ∀ i j, i < bk.length → j < bk.length → shr bk.reverse (bk.length - 1 - i) (bk.length - 1 - j) = shr bk i j := fun i j hi hj => by
    rw [shr_at (by simp; omega) (by simp; omega), shr_at hi hj, rev_at i hi, rev_at j hj]
  have hw : ∀ k, k < p.length → shr bk.reverse ((p.map fun k => bk.length - 1 - k).getD (if k = 0 then (p.map fun k => bk.length - 1 - k).length - 1 else k - 1) 0) ((p.map fun k => bk.length - 1 - k).getD k 0) = shr bk (p.getD (if k = 0 then p.length - 1 else k - 1) 0) (p.getD k 0) := by
    intro k hk
    have hk2 : (if k = 0 then p.length - 1 else k - 1) < p.length := by split <;> omega
    rw [List.length_map, gm k hk, gm _ hk2, srev _ _ (gp _ hk2) (gp k hk)]
  obtain ⟨f, l, ef, el, ec⟩ := lk.ends
  have hp2 := lk.len
  have elast : p.getD (p.length - 1) 0 = l := by
    rw [List.getLast?_eq_getElem?] at el
    rw [List.getD_eq_getElem?_getD, el]; rfl
  have efirst : p.getD 0 0 = f := by
    rw [List.head?_eq_getElem?] at ef
    rw [List.getD_eq_getElem?_getD, ef]; rfl
  have hval : Rat.divInt x y = share := by
    have step_le : ∀ k, k < p.length → shr bk (p.getD (if k = 0 then p.length - 1 else k - 1) 0) (p.getD k 0) ≤ share := by
      intro k hk
      by_cases h0 : k = 0
      · subst h0; simp only [if_true, elast, efirst]; exact ec.2.2.2
      · simp only [h0, if_false]
        have := (get_steps lk.st (k - 1) (by omega)).2.2.2
        rwa [show k - 1 + 1 = k by omega] at this
    have h1 : share ≤ Rat.divInt x y := by
      refine (lk.cyc _).mpr ⟨f, l, ⟨ec.1, ec.2.1, ec.2.2.1, ?_⟩, ?_⟩
      · have := hs1 0 (by simp; omega)
        rw [hw 0 (by omega)] at this
        simp only [if_true, elast, efirst] at this
        exact this
      · refine steps_reach (p := p) (steps_get fun k hk => ?_) ef el
        have z := get_steps lk.st k hk
        refine ⟨z.1, z.2.1, z.2.2.1, ?_⟩
        have := hs1 (k + 1) (by simpa using hk)
        rw [hw (k + 1) hk] at this
        simpa using this
    have h2 : Rat.divInt x y ≤ share := by
      rcases hs2 with h | ⟨k, hk, h⟩
      · rw [h]
        have : 0 ≤ shr bk l f := by
          unfold shr
          exact Rat.divInt_nonneg (ok.nn l f ec.1 ec.2.1) (by have := ok.pos l ec.1; omega)
        have := ec.2.2.2
        grind
      · have hk' : k < p.length := by simpa using hk
        rw [h, hw k hk']
        exact step_le k hk'
    grind
  have ssz : SzQ 100000 share := leak_sz ok lk
  -- all together
  have R := R.k36_law ns
  have key : P.k36_law ns = some (.bool true) := by
    have hadd : op2 addT (enBk bk0) (enBk [(bk0[0].1.reverse, (bk0.getLast ne0).2)]) = some (enBk bk) := by rw [add_bk (by simp [LIM]; omega), hbk]
    have i0 : op2 idxT (enBk bk0) (.int 0) = some (enB bk0[0]) := bk_ix (k := 0) h1
    have il := bk_last ne0
    have hbi := bk_ix hat2
    rw [hbb] at hbi
    have hmxt : maxT [.p (.tuple (enI b.1))] = some (.p (.int mx)) := maxT_t hmx
    have hdv : divOk mx = true := divOk_small (by omega) (by omega)
    have hmap : xmap (fun price => xop mulT (some price) (some (.int by'))) (some (enI b.1)) = some (.list (enI (b.1.map fun p => p * by'))) := map_enI _ b.1 (by rw [gb.lp]; have := v.n6; unfold LIM; omega) fun x hx => by
      have := gb.pr x hx
      simp [mulOk_l (show x.natAbs < 2 ^ 64 by omega)]
    have hset := set_bk (b := (b.1.map (fun p => p * by'), b.2)) hat2
    have hrot : op2 addT (enBk (bk.drop at')) (enBk (bk.take at')) = some (enBk rot) := by rw [add_bk (by simp [LIM]; omega), hr]
    have htwa : op2 addT (enBk bk) (enBk [b]) = some (enBk tw) := by rw [add_bk (by simp [LIM]; omega), htw]
    have hloa : op2 addT (enBk (bk.take at')) (enBk (bk.drop (at' + 1))) = some (enBk lo) := by rw [add_bk (by simp [LIM]; omega), hlo]
    have cd : cutL bk (some (at' : Int)) none = bk.drop at' := cut_from bk at' (by omega)
    have ct : cutL bk none (some (at' : Int)) = bk.take at' := cut_upto bk at'
    have cd1 : cutL bk (some ((at' : Int) + 1)) none = bk.drop (at' + 1) := by
      have := cut_from bk (at' + 1) (by omega)
      simpa using this
    have e0 : op2 idxT (.tuple [enQ share, .list (enI (natI p))]) (.int 0) = some (enQ share) := rfl
    have eg : op2 idxT (.tuple [enQ sg, .list (enI (natI pg))]) (.int 0) = some (enQ sg) := rfl
    have er : op2 idxT (.tuple [enQ sr, .list (enI (natI pr))]) (.int 0) = some (enQ sr) := rfl
    have et : op2 idxT (.tuple [enQ st, .list (enI (natI pt))]) (.int 0) = some (enQ st) := rfl
    have less1 : P.law_less (enQ 1) (enQ share) = some (.bool (decide (1 < share))) := p_lessQ ⟨Nat.one_lt_two_pow (by decide), Nat.one_lt_two_pow (by decide)⟩ ssz
    have hmoved : xmap (fun number => xop subT (xop subT (some (.int bk.length)) (some (.int 1))) (some number)) (some (enI (natI p))) = some (.list (enI (natI (p.map fun k => bk.length - 1 - k)))) := by
      rw [map_enI (fun z => (bk.length : Int) - 1 - z) (natI p) (by simp [natI, LIM]; omega) (fun z _ => rfl)]
      congr 3
      simp only [natI, List.map_map]
      refine List.map_congr_left fun z hz => ?_
      have := lk.lt z hz
      simp; omega
    have hcosts : P.law_a_costs (enBk bk.reverse) = some (enC bk.reverse) := by
      have := law_a_costs bk.reverse okr.pr (fun b hb c hc => by rw [(vrev.all b hb).lp, (vrev.all c hc).la]; exact Nat.le_refl _)
      rw [enM_costs] at this
      exact qc_of this
    have n1 : P.law_less (.tuple [.int x, .int y]) (enQ share) = some (.bool false) := by
      rw [show enQ share = .tuple [.int share.num, .int share.den] from rfl, p_less (mulOk_sz sx ssz.2 (by decide)) (mulOk_sz ssz.1 sy (by decide))]
      rw [decide_eq_false]
      rw [less_pos hy0 (by have := share.den_pos; omega), hval]
      rw [Rat.divInt_ofNat, Rat.mkRat_self]; grind
    have n2 : P.law_less (enQ share) (.tuple [.int x, .int y]) = some (.bool false) := by
      rw [show enQ share = .tuple [.int share.num, .int share.den] from rfl, p_less (mulOk_sz ssz.1 sy (by decide)) (mulOk_sz sx ssz.2 (by decide))]
      rw [decide_eq_false]
      rw [less_pos (by have := share.den_pos; omega) hy0, hval]
      rw [Rat.divInt_ofNat, Rat.mkRat_self]; grind
    have tl : (bk.map enB).length ≤ LIM := by simp [LIM]; omega
    simp only [c_xop] at hmap
    unfold P.k36_law
    rw [show (bk.set at' (b.1.map (fun p => p * by'), b.2)).map enB = great.map enB by rw [hg]] at hset
    simp only [c_ap3, hb, Option.bind_some, c_xop, i0, B_0, c_xrev2, rev_enI, c_xneg, il, B_1, c_xtup, c_xlst, c_xseq1, c_xseq0, Option.map_some, mk_B', one_bk, hadd, c_ap2, hc2, hpk, c_ap1, hleak, c_un2]
    simp only [c_ixl, a0, a1, c_xf1, len_bk, Option.bind_some, ev_pure, c_xop, c_mod, hm0, if_false, hat, hbi, un_B, c_pow, c_xf2, hmxt]
    simp only [show (0 : Int) ≤ 6 ∧ (6 : Int) ≤ 1000000 ∧ (10 : Int).natAbs < 2 ^ 64 from by decide, if_true, and_self, c_xop, c_fdiv, show (10 : Int) ^ (6 : Int).toNat = 1000000 from rfl, hdv, c_xf2, c_xf1, ev_min2, ev_max2, Option.bind_some, ev_pure, ht, show ¬ t = 0 from by omega, if_false, c_mod, c_add, hby, iseq_bk, c_iseq2, hmap, tup_enI, c_xtup, c_xseq1, c_xseq0, Option.map_some, mk_B', hset, list_bk, c_ap1, hlg, eg, ne_Q, esg]
    simp only [c_xint, c_xslice, slice_bk, cd, ct, cd1, Option.bind_some, ev_pure, c_xop, hrot, c_ap1, hlr, er, ne_Q, esr, c_xbool, c_xor, decide_true, Bool.not_true, c_xif_f]
    simp only [c_xlst, c_xseq1, c_xseq0, Option.map_some, one_bk, c_xop, htwa, c_ap1, hlt, et, Option.bind_some, c_xtup, one_Q, c_ap2, less1, c_xf1, ev_intT_b, ev_pure]
    have hpick : op2 idxT (.list [enQ share, enQ 1]) (.int (if decide (1 < share) = true then 1 else 0)) = some (enQ st) := by
      rw [est']
      by_cases hh : 1 < share <;> simp [hh, atI, ixN]
    simp only [hpick, ne_Q, decide_true, Bool.not_true, c_xbool, c_xif_f, c_gt, c_xand]
    have hthird : (xif (some (decide (2 < (bk.length : Int)))) (xbool (ap2 P.law_less (xop idxT (ap1 P.leak (xop addT (xslice (some (enBk bk)) (some none) (xint (some (.int at')))) (xslice (some (enBk bk)) (xint (some (.int ((at' : Int) + 1)))) (some none)))) (some (.int 0))) (some (enQ share)))) (some false)) = some false := by
      by_cases h3 : 2 < bk.length
      · obtain ⟨sl, pl, hL, hle, hsz⟩ := hleft h3
        have el0 : op2 idxT (.tuple [enQ sl, .list (enI (natI pl))]) (.int 0) = some (enQ sl) := rfl
        have hl3 : P.law_less (enQ sl) (enQ share) = some (.bool (decide (sl < share))) := p_lessQ hsz ssz
        have hn3 : ¬ sl < share := by grind
        have h3' : (2 : Int) < bk.length := by omega
        simp only [h3', decide_true, c_xif_t, c_xint, c_xslice, slice_bk, ct, cd1, Option.bind_some, ev_pure, c_xop, hloa, c_ap1, hL, el0, c_ap2, hl3, hn3, decide_false, c_xbool]
      · have h3' : ¬ (2 : Int) < bk.length := by omega
        simp only [h3', decide_false, c_xif_f]
    simp only [c_add, c_sub, c_xop, c_ap2, c_xint, c_xslice, slice_bk, ct, cd1, Option.bind_some, ev_pure] at hthird ⊢
    simp only [hthird, c_xif_f, e0, er, et]
    simp only [c_iseq1, c_xop, c_sub, Option.bind_some] at hmoved ⊢
    simp only [hmoved, Option.bind_some, rev_bk, c_ap1, hcosts, c_ap2, hsh, n1, n2, c_xmnot, Bool.not_false, c_xmand, c_xbool, c_xif_t]
    have t0 : ∀ a b : D, op2 idxT (.tuple [a, b]) (.int 0) = some a := fun _ _ => rfl
    simp [t0, ne_Q]
  obtain ⟨t', h1', h2'⟩ := R _ key
  have h2' : t' = .p (.bool true) := h2'
  rw [h1', h2']
where
  nodup_len {p : List Nat} {n : Nat} (h : p.Nodup) (hl : ∀ x ∈ p, x < n) : p.length ≤ n := by
    have := List.Nodup.length_le_of_subset h (l₂ := List.range n) (fun x hx => List.mem_range.mpr (hl x hx))
    simpa using this
  leak_sz {bk : List Buy} (ok : CostOk bk) {share : Rat} {p : List Nat} (lk : LeakOk bk.length (shr bk) share p) : SzQ 100000 share := lk.sz
  p_lessQ {p q : Rat} (hp : SzQ 100000 p) (hq : SzQ 100000 q) : P.law_less (enQ p) (enQ q) = some (.bool (decide (p < q))) := by
    rw [show enQ p = .tuple [.int p.num, .int p.den] from rfl, show enQ q = .tuple [.int q.num, .int q.den] from rfl, p_less (mulOk_sz hp.1 hq.2 (by decide)) (mulOk_sz hq.1 hp.2 (by decide))]
    congr 2
    rw [decide_eq_decide, Rat.lt_iff]
end C
namespace W
open PySem PySem.Spec PyProof.Rows L2 M
def topS (i : Nat) : Stmt := PySem.Challenge.pw_onewish_k36_whole_leaks_told_otherwise.main.body.getD i (.Pass ⟨0, 0, 0, 0⟩)
abbrev s_cost_at : Stmt := topS 1
abbrev s_costs_of : Stmt := topS 2
abbrev s_divisor : Stmt := topS 4
abbrev s_fraction : Stmt := topS 5
abbrev s_is_less : Stmt := topS 6
abbrev s_greater : Stmt := topS 7
abbrev s_way_between : Stmt := topS 9
abbrev s_share_of : Stmt := topS 10
abbrev s_least_through : Stmt := topS 12
abbrev s_leak : Stmt := topS 13
abbrev s__law_cell_at : Stmt := topS 15
abbrev s__law_draws : Stmt := topS 16
abbrev s__law_best_good : Stmt := topS 17
abbrev s__law_a_book : Stmt := topS 18
abbrev s__law_cost : Stmt := topS 19
abbrev s__law_a_costs : Stmt := topS 20
abbrev s__law_less : Stmt := topS 21
abbrev s__law_a_share : Stmt := topS 22
abbrev s_law : Stmt := topS 23
abbrev N_cost_at : List Str := ["prices", "amounts", "price", "amount"]
theorem sc_cost_at : FnScope N_cost_at ["prices", "amounts"] (defScope s_cost_at) := ⟨rfl, rfl, rfl, by decide +kernel, rfl, by decide +kernel, by decide +kernel⟩
abbrev N_costs_of : List Str := ["book", "told", "prices", "own", "other", "amounts"]
theorem sc_costs_of : FnScope N_costs_of ["book"] (defScope s_costs_of) := ⟨rfl, rfl, rfl, by decide +kernel, rfl, by decide +kernel, by decide +kernel⟩
abbrev N_divisor : List Str := ["one", "other"]
theorem sc_divisor : FnScope N_divisor ["one", "other"] (defScope s_divisor) := ⟨rfl, rfl, rfl, by decide +kernel, rfl, by decide +kernel, by decide +kernel⟩
abbrev N_fraction : List Str := ["top", "bottom", "many"]
theorem sc_fraction : FnScope N_fraction ["top", "bottom"] (defScope s_fraction) := ⟨rfl, rfl, rfl, by decide +kernel, rfl, by decide +kernel, by decide +kernel⟩
abbrev N_is_less : List Str := ["one", "other"]
theorem sc_is_less : FnScope N_is_less ["one", "other"] (defScope s_is_less) := ⟨rfl, rfl, rfl, by decide +kernel, rfl, by decide +kernel, by decide +kernel⟩
abbrev N_greater : List Str := ["one", "other"]
theorem sc_greater : FnScope N_greater ["one", "other"] (defScope s_greater) := ⟨rfl, rfl, rfl, by decide +kernel, rfl, by decide +kernel, by decide +kernel⟩
abbrev N_way_between : List Str := ["ways", "one", "other", "behind", "waiting", "here", "there", "told"]
theorem sc_way_between : FnScope N_way_between ["ways", "one", "other"] (defScope s_way_between) := ⟨rfl, rfl, rfl, by decide +kernel, rfl, by decide +kernel, by decide +kernel⟩
abbrev N_share_of : List Str := ["costs", "one", "other"]
theorem sc_share_of : FnScope N_share_of ["costs", "one", "other"] (defScope s_share_of) := ⟨rfl, rfl, rfl, by decide +kernel, rfl, by decide +kernel, by decide +kernel⟩
abbrev N_least_through : List Str := ["shares", "many", "told", "by", "one", "other", "through", "row"]
theorem sc_least_through : FnScope N_least_through ["shares"] (defScope s_least_through) := ⟨rfl, rfl, rfl, by decide +kernel, rfl, by decide +kernel, by decide +kernel⟩
abbrev N_leak : List Str := ["book", "costs", "many", "shares", "one", "through", "best", "other", "here", "share", "ways", "k", "j"]
theorem sc_leak : FnScope N_leak ["book"] (defScope s_leak) := ⟨rfl, rfl, rfl, by decide +kernel, rfl, by decide +kernel, by decide +kernel⟩
abbrev N__law_cell_at : List Str := ["script", "k"]
theorem sc__law_cell_at : FnScope N__law_cell_at ["script", "k"] (defScope s__law_cell_at) := ⟨rfl, rfl, rfl, by decide +kernel, rfl, by decide +kernel, by decide +kernel⟩
abbrev N__law_draws : List Str := ["cell", "many", "base", "found", "rest", "stirred", "k"]
theorem sc__law_draws : FnScope N__law_draws ["cell", "many", "base"] (defScope s__law_draws) := ⟨rfl, rfl, rfl, by decide +kernel, rfl, by decide +kernel, by decide +kernel⟩
abbrev N__law_best_good : List Str := ["prices", "weights", "amount", "best", "k", "one"]
theorem sc__law_best_good : FnScope N__law_best_good ["prices", "weights", "amount"] (defScope s__law_best_good) := ⟨rfl, rfl, rfl, by decide +kernel, rfl, by decide +kernel, by decide +kernel⟩
abbrev N__law_a_book : List Str := ["script", "at", "most", "heads", "goods", "many", "far", "way", "book", "k", "picks", "prices", "some", "amounts", "buying", "pick", "price", "amount"]
theorem sc__law_a_book : FnScope N__law_a_book ["script", "at", "most"] (defScope s__law_a_book) := ⟨rfl, rfl, rfl, by decide +kernel, rfl, by decide +kernel, by decide +kernel⟩
abbrev N__law_cost : List Str := ["prices", "amounts", "total", "k"]
theorem sc__law_cost : FnScope N__law_cost ["prices", "amounts"] (defScope s__law_cost) := ⟨rfl, rfl, rfl, by decide +kernel, rfl, by decide +kernel, by decide +kernel⟩
abbrev N__law_a_costs : List Str := ["book", "found", "prices", "amounts", "other"]
theorem sc__law_a_costs : FnScope N__law_a_costs ["book"] (defScope s__law_a_costs) := ⟨rfl, rfl, rfl, by decide +kernel, rfl, by decide +kernel, by decide +kernel⟩
abbrev N__law_less : List Str := ["one", "other"]
theorem sc__law_less : FnScope N__law_less ["one", "other"] (defScope s__law_less) := ⟨rfl, rfl, rfl, by decide +kernel, rfl, by decide +kernel, by decide +kernel⟩
abbrev N__law_a_share : List Str := ["costs", "numbers", "best", "k", "one", "here"]
theorem sc__law_a_share : FnScope N__law_a_share ["costs", "numbers"] (defScope s__law_a_share) := ⟨rfl, rfl, rfl, by decide +kernel, rfl, by decide +kernel, by decide +kernel⟩
abbrev N_law : List Str := ["script", "book", "picks", "share", "numbers", "at", "prices", "amounts", "by", "great", "twice", "moved", "own", "price", "number"]
theorem sc_law : FnScope N_law ["script"] (defScope s_law) := ⟨rfl, rfl, rfl, by decide +kernel, rfl, by decide +kernel, by decide +kernel⟩
structure Tx (K : PySem.W.Frag) (mg : Str → Option Value) where
  a_cost_at : Addr
  d_cost_at : FuncData
  a_costs_of : Addr
  d_costs_of : FuncData
  a_divisor : Addr
  d_divisor : FuncData
  a_fraction : Addr
  d_fraction : FuncData
  a_is_less : Addr
  d_is_less : FuncData
  a_greater : Addr
  d_greater : FuncData
  a_way_between : Addr
  d_way_between : FuncData
  a_share_of : Addr
  d_share_of : FuncData
  a_least_through : Addr
  d_least_through : FuncData
  a_leak : Addr
  d_leak : FuncData
  a__law_cell_at : Addr
  d__law_cell_at : FuncData
  a__law_draws : Addr
  d__law_draws : FuncData
  a__law_best_good : Addr
  d__law_best_good : FuncData
  a__law_a_book : Addr
  d__law_a_book : FuncData
  a__law_cost : Addr
  d__law_cost : FuncData
  a__law_a_costs : Addr
  d__law_a_costs : FuncData
  a__law_less : Addr
  d__law_less : FuncData
  a__law_a_share : Addr
  d__law_a_share : FuncData
  a_law : Addr
  d_law : FuncData
  F_cost_at : Fun K "cost_at" "cost_at" s_cost_at a_cost_at d_cost_at
  b_cost_at : Binds K d_cost_at ["prices", "amounts"] []
  g_cost_at : mg "cost_at" = some (.ref a_cost_at)
  F_costs_of : Fun K "costs_of" "costs_of" s_costs_of a_costs_of d_costs_of
  b_costs_of : Binds K d_costs_of ["book"] []
  g_costs_of : mg "costs_of" = some (.ref a_costs_of)
  F_divisor : Fun K "divisor" "divisor" s_divisor a_divisor d_divisor
  b_divisor : Binds K d_divisor ["one", "other"] []
  g_divisor : mg "divisor" = some (.ref a_divisor)
  F_fraction : Fun K "fraction" "fraction" s_fraction a_fraction d_fraction
  b_fraction : Binds K d_fraction ["top", "bottom"] []
  g_fraction : mg "fraction" = some (.ref a_fraction)
  F_is_less : Fun K "is_less" "is_less" s_is_less a_is_less d_is_less
  b_is_less : Binds K d_is_less ["one", "other"] []
  g_is_less : mg "is_less" = some (.ref a_is_less)
  F_greater : Fun K "greater" "greater" s_greater a_greater d_greater
  b_greater : Binds K d_greater ["one", "other"] []
  g_greater : mg "greater" = some (.ref a_greater)
  F_way_between : Fun K "way_between" "way_between" s_way_between a_way_between d_way_between
  b_way_between : Binds K d_way_between ["ways", "one", "other"] []
  g_way_between : mg "way_between" = some (.ref a_way_between)
  F_share_of : Fun K "share_of" "share_of" s_share_of a_share_of d_share_of
  b_share_of : Binds K d_share_of ["costs", "one", "other"] []
  g_share_of : mg "share_of" = some (.ref a_share_of)
  F_least_through : Fun K "least_through" "least_through" s_least_through a_least_through d_least_through
  b_least_through : Binds K d_least_through ["shares"] []
  g_least_through : mg "least_through" = some (.ref a_least_through)
  F_leak : Fun K "leak" "leak" s_leak a_leak d_leak
  b_leak : Binds K d_leak ["book"] []
  g_leak : mg "leak" = some (.ref a_leak)
  F__law_cell_at : Fun K "_law_cell_at" "_law_cell_at" s__law_cell_at a__law_cell_at d__law_cell_at
  b__law_cell_at : Binds K d__law_cell_at ["script", "k"] []
  g__law_cell_at : mg "_law_cell_at" = some (.ref a__law_cell_at)
  F__law_draws : Fun K "_law_draws" "_law_draws" s__law_draws a__law_draws d__law_draws
  b__law_draws : Binds K d__law_draws ["cell", "many", "base"] []
  g__law_draws : mg "_law_draws" = some (.ref a__law_draws)
  F__law_best_good : Fun K "_law_best_good" "_law_best_good" s__law_best_good a__law_best_good d__law_best_good
  b__law_best_good : Binds K d__law_best_good ["prices", "weights", "amount"] []
  g__law_best_good : mg "_law_best_good" = some (.ref a__law_best_good)
  F__law_a_book : Fun K "_law_a_book" "_law_a_book" s__law_a_book a__law_a_book d__law_a_book
  b__law_a_book : Binds K d__law_a_book ["script", "at", "most"] []
  g__law_a_book : mg "_law_a_book" = some (.ref a__law_a_book)
  F__law_cost : Fun K "_law_cost" "_law_cost" s__law_cost a__law_cost d__law_cost
  b__law_cost : Binds K d__law_cost ["prices", "amounts"] []
  g__law_cost : mg "_law_cost" = some (.ref a__law_cost)
  F__law_a_costs : Fun K "_law_a_costs" "_law_a_costs" s__law_a_costs a__law_a_costs d__law_a_costs
  b__law_a_costs : Binds K d__law_a_costs ["book"] []
  g__law_a_costs : mg "_law_a_costs" = some (.ref a__law_a_costs)
  F__law_less : Fun K "_law_less" "_law_less" s__law_less a__law_less d__law_less
  b__law_less : Binds K d__law_less ["one", "other"] []
  g__law_less : mg "_law_less" = some (.ref a__law_less)
  F__law_a_share : Fun K "_law_a_share" "_law_a_share" s__law_a_share a__law_a_share d__law_a_share
  b__law_a_share : Binds K d__law_a_share ["costs", "numbers"] []
  g__law_a_share : mg "_law_a_share" = some (.ref a__law_a_share)
  F_law : Fun K "law" "law" s_law a_law d_law
  b_law : Binds K d_law ["script"] []
  g_law : mg "law" = some (.ref a_law)
  z_abs : mg "abs" = none
  z_int : mg "int" = none
  z_len : mg "len" = none
  z_list : mg "list" = none
  z_max : mg "max" = none
  z_min : mg "min" = none
  z_range : mg "range" = none
  z_sum : mg "sum" = none
  z_tuple : mg "tuple" = none
  z_zip : mg "zip" = none
section
variable {P : Program} {w : World} {K : PySem.W.Frag} {mg : Str → Option Value} {base : Heap}
set_option maxHeartbeats 4000000 in
theorem ok_cost_at (X : Tx K mg) : FnOk P w K mg base CX0 1 X.a_cost_at X.d_cost_at ["prices", "amounts"] (spT K 2 Q.cost_at) := by
  have nd : (N_cost_at).Nodup := sc_cost_at.nd
  exact fn_ok (k := 0) (N := N_cost_at) X.F_cost_at sc_cost_at fun cdv A outer s H E hr =>
    psm_one (psm_ret (pm_callB (cr_sum rfl) cm_sum (by rfl) X.z_sum bt_sum (pam_cons (pm_lc (own := [("price", 2), ("amount", 3)]) rfl nd (pim_zip (by rfl) X.z_zip (pm_var 0) (pm_var 1)) (blkOk_by (by rfl)) (fun _ _ _ _ _ => gm_tup rfl (gsm_cons (gm_name (i := 2) nd) (gsm_cons (gm_name (i := 3) nd) (gsm_nil))) (gl_cons (gl_cons gl_nil))) (fun _ _ _ _ _ => ptsm_nil) (fun _ _ _ _ _ => pm_op op_mulA r2m_mul (pm_var 2) (pm_var 3))) (pam_nil))))
set_option maxHeartbeats 4000000 in
theorem ok_costs_of (X : Tx K mg) : FnOk P w K mg base CX0 2 X.a_costs_of X.d_costs_of ["book"] (spT K 1 Q.costs_of) := by
  have nd : (N_costs_of).Nodup := sc_costs_of.nd
  exact fn_ok (k := 1) (N := N_costs_of) X.F_costs_of sc_costs_of fun cdv A outer s H E hr =>
    psm_cons (psm_setF (i := 1) nd (pf_lst (paf_nil)))
      (psm_cons (psm_for PassesOwn.never rfl (pim_seq (pm_var 0)) (gm_tup rfl (gsm_cons (gm_name (i := 2) nd) (gsm_cons (gm_name (i := 3) nd) (gsm_nil))) (gl_cons (gl_cons gl_nil))) (psm_one (psm_append (pp_var 1) (pm_lc (own := [("other", 4), ("amounts", 5)]) rfl nd (pim_seqB (pm_var 0)) (blkOk_by (by rfl)) (fun _ _ _ _ _ => gm_tup rfl (gsm_cons (gm_name (i := 4) nd) (gsm_cons (gm_name (i := 5) nd) (gsm_nil))) (gl_cons (gl_cons gl_nil))) (fun _ _ _ _ _ => ptsm_nil) (fun _ _ _ _ _ => pm_call (ok_cost_at X) (hr.mono (by decide)) (by rfl) X.g_cost_at X.F_cost_at.kp X.b_cost_at (pam_cons (pm_var 2) (pam_cons (pm_var 5) (pam_nil))) (lenS len1))))))
      (psm_one (psm_retV 1)))
set_option maxHeartbeats 4000000 in
theorem ok_divisor (X : Tx K mg) : FnOk P w K mg base CX0 1 X.a_divisor X.d_divisor ["one", "other"] (spT K 2 Q.divisor) := by
  have nd : (N_divisor).Nodup := sc_divisor.nd
  exact fn_ok (k := 0) (N := N_divisor) X.F_divisor sc_divisor fun cdv A outer s H E hr =>
    psm_cons (psm_set (i := 0) nd (pm_callB call_abs cm_abs (by rfl) X.z_abs bt_abs (pam_cons (pm_var 0) (pam_nil))))
      (psm_cons (psm_set (i := 1) nd (pm_callB call_abs cm_abs (by rfl) X.z_abs bt_abs (pam_cons (pm_var 1) (pam_nil))))
      (psm_cons (psm_while PassesOwn.never (ptm_cmp op_gt r2m_gt (pm_var 1) (pm_int) (nomark _)) (psm_one (psm_par (i := 0) (j := 1) rfl nd (by decide) (pam_cons (pm_var 1) (pam_cons (pm_op op_modN r2m_mod (pm_var 0) (pm_var 1)) (pam_nil))) (by rfl))))
      (psm_one (psm_retV 0))))
set_option maxHeartbeats 4000000 in
theorem ok_fraction (X : Tx K mg) : FnOk P w K mg base CX0 2 X.a_fraction X.d_fraction ["top", "bottom"] (spT K 2 Q.fraction) := by
  have nd : (N_fraction).Nodup := sc_fraction.nd
  exact fn_ok (k := 1) (N := N_fraction) X.F_fraction sc_fraction fun cdv A outer s H E hr =>
    psm_cons (psm_set (i := 2) nd (pm_call (ok_divisor X) (hr.mono (by decide)) (by rfl) X.g_divisor X.F_divisor.kp X.b_divisor (pam_cons (pm_var 0) (pam_cons (pm_var 1) (pam_nil))) (lenS len1)))
      (psm_cons (psm_if (ptm_cmp op_lt r2m_lt (pm_var 1) (pm_int) (nomark _)) (psm_one (psm_set (i := 2) nd (pm_op op_sub r2m_sub (pm_int) (pm_var 2)))) (psm_nil))
      (psm_one (psm_ret (pm_tup (pam_cons (pm_op op_fdivB r2m_fdiv (pm_var 0) (pm_var 2)) (pam_cons (pm_op op_fdivB r2m_fdiv (pm_var 1) (pm_var 2)) (pam_nil)))))))
set_option maxHeartbeats 4000000 in
theorem ok_is_less (X : Tx K mg) : FnOk P w K mg base CX0 1 X.a_is_less X.d_is_less ["one", "other"] (spT K 2 Q.is_less) := by
  have nd : (N_is_less).Nodup := sc_is_less.nd
  exact fn_ok (k := 0) (N := N_is_less) X.F_is_less sc_is_less fun cdv A outer s H E hr =>
    psm_one (psm_ret (pm_cmp op_lt r2m_lt (pm_op op_mulA r2m_mul (pm_ix ix_seq r2m_ix (pm_var 0) (pm_int) (fun _ _ => rfl)) (pm_ix ix_seq r2m_ix (pm_var 1) (pm_int) (fun _ _ => rfl))) (pm_op op_mulA r2m_mul (pm_ix ix_seq r2m_ix (pm_var 1) (pm_int) (fun _ _ => rfl)) (pm_ix ix_seq r2m_ix (pm_var 0) (pm_int) (fun _ _ => rfl))) (nomark _)))
set_option maxHeartbeats 4000000 in
theorem ok_greater (X : Tx K mg) : FnOk P w K mg base CX0 2 X.a_greater X.d_greater ["one", "other"] (spT K 2 Q.greater) := by
  have nd : (N_greater).Nodup := sc_greater.nd
  exact fn_ok (k := 1) (N := N_greater) X.F_greater sc_greater fun cdv A outer s H E hr =>
    psm_cons (psm_if (ptm_val (pm_call (ok_is_less X) (hr.mono (by decide)) (by rfl) X.g_is_less X.F_is_less.kp X.b_is_less (pam_cons (pm_var 0) (pam_cons (pm_var 1) (pam_nil))) (lenS len1))) (psm_one (psm_retV 1)) (psm_nil))
      (psm_one (psm_retV 0))
set_option maxHeartbeats 4000000 in
theorem ok_way_between (X : Tx K mg) : FnOk P w K mg base CX0 1 X.a_way_between X.d_way_between ["ways", "one", "other"] (spT K 3 Q.way_between) := by
  have nd : (N_way_between).Nodup := sc_way_between.nd
  exact fn_ok (k := 0) (N := N_way_between) X.F_way_between sc_way_between fun cdv A outer s H E hr =>
    psm_cons (psm_setF (i := 3) nd (pf_done (pm_var 1) (pm_non)))
      (psm_cons (psm_setF (i := 4) nd (pf_lst (paf_cons (pf_pure (pm_var 1)) (paf_nil))))
      (psm_cons (psm_while PassesOwn.never (ptm_w (pwm_and (ptm_cmp (op_neD hr.units) r2m_ne (pm_var 4) (pm_lst (pam_nil)) (nomark _)) (pwm_and1 (ptm_dnotin (u1 hr.units) (pm_var 2) (pm_var 3))))) (psm_cons (psm_setPopAt (j := 5) nd (pp_var 4) (pm_int))
      (psm_one (psm_for PassesOwn.never rfl (pim_range1 (fz := true) (by rfl) X.z_range (pm_callB call_lenA cm_len (by rfl) X.z_len bt_len (pam_cons (pm_var 0) (pam_nil)))) (gm_name (i := 6) nd) (psm_one (psm_if (ptm_w (pwm_and (ptm_val (pm_ix ix_seq r2m_ix (pm_ix ix_seq r2m_ix (pm_var 0) (pm_var 5) (fun _ _ => rfl)) (pm_var 6) (fun _ _ => rfl))) (pwm_and1 (ptm_dnotin (u1 hr.units) (pm_var 6) (pm_var 3))))) (psm_cons (psm_dput 3 (u1 hr.units) (pm_var 6) (pm_var 5))
      (psm_one (psm_append (pp_var 4) (pm_var 6)))) (psm_nil)))))))
      (psm_cons (psm_if (ptm_dnotin (u1 hr.units) (pm_var 2) (pm_var 3)) (psm_one (psm_ret (pm_non))) (psm_nil))
      (psm_cons (psm_setF (i := 7) nd (pf_lst (paf_cons (pf_pure (pm_var 2)) (paf_nil))))
      (psm_cons (psm_while PassesOwn.never (ptm_cmp (op_neD hr.units) r2m_ne (pm_ix ix_seq r2m_ix (pm_var 7) (pm_int) (fun _ _ => rfl)) (pm_var 1) (nomark _)) (psm_one (psm_insert (pp_var 7) (pm_int) (pm_dget (u1 hr.units) (pm_var 3) (pm_ix ix_seq r2m_ix (pm_var 7) (pm_int) (fun _ _ => rfl)) (fun _ _ => rfl)))))
      (psm_one (psm_retV 7)))))))
set_option maxHeartbeats 4000000 in
theorem ok_share_of (X : Tx K mg) : FnOk P w K mg base CX0 3 X.a_share_of X.d_share_of ["costs", "one", "other"] (spT K 3 Q.share_of) := by
  have nd : (N_share_of).Nodup := sc_share_of.nd
  exact fn_ok (k := 2) (N := N_share_of) X.F_share_of sc_share_of fun cdv A outer s H E hr =>
    psm_one (psm_ret (pm_call (ok_fraction X) (hr.mono (by decide)) (by rfl) X.g_fraction X.F_fraction.kp X.b_fraction (pam_cons (pm_ix ix_seq r2m_ix (pm_ix ix_seq r2m_ix (pm_var 0) (pm_var 1) (fun _ _ => rfl)) (pm_var 2) (fun _ _ => rfl)) (pam_cons (pm_ix ix_seq r2m_ix (pm_ix ix_seq r2m_ix (pm_var 0) (pm_var 1) (fun _ _ => rfl)) (pm_var 1) (fun _ _ => rfl)) (pam_nil))) (lenS len1)))
set_option maxHeartbeats 4000000 in
theorem ok_least_through (X : Tx K mg) : FnOk P w K mg base CX0 3 X.a_least_through X.d_least_through ["shares"] (spT K 1 Q.least_through) := by
  have nd : (N_least_through).Nodup := sc_least_through.nd
  exact fn_ok (k := 2) (N := N_least_through) X.F_least_through sc_least_through fun cdv A outer s H E hr =>
    psm_cons (psm_set (i := 1) nd (pm_listR1 rfl (by rfl) X.z_list (by rfl) X.z_range (pm_callB call_lenA cm_len (by rfl) X.z_len bt_len (pam_cons (pm_var 0) (pam_nil)))))
      (psm_cons (psm_setLcT (i := 2) (own := [("row", 7)]) rfl nd (pim_seqB (pm_var 0)) (blkOk_by (by rfl)) (fun _ _ _ _ _ => gm_name (i := 7) nd) (fun _ _ _ _ _ => ptsm_nil) (fun _ _ _ _ _ => pf_list (by rfl) X.z_list (pm_var 7)) (sw_true rfl rfl rfl (by rfl)))
      (psm_cons (psm_for PassesOwn.never rfl (pim_seq (pm_var 1)) (gm_name (i := 3) nd) (psm_one (psm_for PassesOwn.never rfl (pim_seq (pm_var 1)) (gm_name (i := 4) nd) (psm_one (psm_for PassesOwn.never rfl (pim_seq (pm_var 1)) (gm_name (i := 5) nd) (psm_cons (psm_set (i := 6) nd (pm_call (ok_greater X) (hr.mono (by decide)) (by rfl) X.g_greater X.F_greater.kp X.b_greater (pam_cons (pm_ix ix_seq r2m_ix (pm_ix ix_seq r2m_ix (pm_var 2) (pm_var 4) (fun _ _ => rfl)) (pm_var 3) (fun _ _ => rfl)) (pam_cons (pm_ix ix_seq r2m_ix (pm_ix ix_seq r2m_ix (pm_var 2) (pm_var 3) (fun _ _ => rfl)) (pm_var 5) (fun _ _ => rfl)) (pam_nil))) (lenS len1)))
      (psm_one (psm_if (ptm_w (pwm_and (ptm_cmp (op_neD hr.units) r2m_ne (pm_var 4) (pm_var 5) (nomark _)) (pwm_and (ptm_cmp op_notIn_seq r2m_notIn (pm_var 3) (pm_tup (pam_cons (pm_var 4) (pam_cons (pm_var 5) (pam_nil)))) rfl) (pwm_and1 (ptm_val (pm_call (ok_is_less X) (hr.mono (by decide)) (by rfl) X.g_is_less X.F_is_less.kp X.b_is_less (pam_cons (pm_var 6) (pam_cons (pm_ix ix_seq r2m_ix (pm_ix ix_seq r2m_ix (pm_var 2) (pm_var 4) (fun _ _ => rfl)) (pm_var 5) (fun _ _ => rfl)) (pam_nil))) (lenS len1))))))) (psm_one (psm_setIx (pp_ix (pp_var 2) (pm_var 4) (fun _ _ => rfl)) (pm_var 5) (pm_var 6))) (psm_nil)))))))))
      (psm_one (psm_retV 2))))
set_option maxHeartbeats 4000000 in
theorem ok_leak (X : Tx K mg) : FnOk P w K mg base CX0 4 X.a_leak X.d_leak ["book"] (spT K 1 Q.leak) := by
  have nd : (N_leak).Nodup := sc_leak.nd
  exact fn_ok (k := 3) (N := N_leak) X.F_leak sc_leak fun cdv A outer s H E hr =>
    psm_cons (psm_if (ptm_cmp op_lt r2m_lt (pm_callB call_lenA cm_len (by rfl) X.z_len bt_len (pam_cons (pm_var 0) (pam_nil))) (pm_int) (nomark _)) (psm_one (psm_ret (pm_non))) (psm_nil))
      (psm_cons (psm_set (i := 1) nd (pm_call (ok_costs_of X) (hr.mono (by decide)) (by rfl) X.g_costs_of X.F_costs_of.kp X.b_costs_of (pam_cons (pm_var 0) (pam_nil)) len1))
      (psm_cons (psm_set (i := 2) nd (pm_listR1 rfl (by rfl) X.z_list (by rfl) X.z_range (pm_callB call_lenA cm_len (by rfl) X.z_len bt_len (pam_cons (pm_var 0) (pam_nil)))))
      (psm_cons (psm_setF (i := 3) nd (pf_lst (paf_nil)))
      (psm_cons (psm_for PassesOwn.never rfl (pim_seq (pm_var 2)) (gm_name (i := 4) nd) (psm_one (psm_append (pp_var 3) (pm_lc (own := [("other", 7)]) rfl nd (pim_seqB (pm_var 2)) (blkOk_by (by rfl)) (fun _ _ _ _ _ => gm_name (i := 7) nd) (fun _ _ _ _ _ => ptsm_nil) (fun _ _ _ _ _ => pm_call (ok_share_of X) (hr.mono (by decide)) (by rfl) X.g_share_of X.F_share_of.kp X.b_share_of (pam_cons (pm_var 1) (pam_cons (pm_var 4) (pam_cons (pm_var 7) (pam_nil)))) (lenS (lenS len1)))))))
      (psm_frz 3 (psm_cons (psm_set (i := 5) nd (pm_call (ok_least_through X) (hr.mono (by decide)) (by rfl) X.g_least_through X.F_least_through.kp X.b_least_through (pam_cons (pm_var 3) (pam_nil)) len1))
      (psm_cons (psm_set (i := 6) nd (pm_non))
      (psm_cons (psm_for PassesOwn.never rfl (pim_seq (pm_var 2)) (gm_name (i := 4) nd) (psm_one (psm_for PassesOwn.never rfl (pim_seq (pm_var 2)) (gm_name (i := 7) nd) (psm_one (psm_if (ptm_cmp (op_neD hr.units) r2m_ne (pm_var 4) (pm_var 7) (nomark _)) (psm_cons (psm_set (i := 8) nd (pm_call (ok_greater X) (hr.mono (by decide)) (by rfl) X.g_greater X.F_greater.kp X.b_greater (pam_cons (pm_ix ix_seq r2m_ix (pm_ix ix_seq r2m_ix (pm_var 5) (pm_var 4) (fun _ _ => rfl)) (pm_var 7) (fun _ _ => rfl)) (pam_cons (pm_ix ix_seq r2m_ix (pm_ix ix_seq r2m_ix (pm_var 3) (pm_var 7) (fun _ _ => rfl)) (pm_var 4) (fun _ _ => rfl)) (pam_nil))) (lenS len1)))
      (psm_one (psm_if (ptm_w (pwm_or (ptm_cmp op_isN r2m_isn (pm_var 6) (pm_non) (nomark _)) (pwm_or1 (ptm_val (pm_call (ok_is_less X) (hr.mono (by decide)) (by rfl) X.g_is_less X.F_is_less.kp X.b_is_less (pam_cons (pm_var 8) (pam_cons (pm_ix ix_seq r2m_ix (pm_var 6) (pm_int) (fun _ _ => rfl)) (pam_nil))) (lenS len1)))))) (psm_one (psm_set (i := 6) nd (pm_tup (pam_cons (pm_var 8) (pam_cons (pm_var 4) (pam_cons (pm_var 7) (pam_nil))))))) (psm_nil)))) (psm_nil))))))
      (psm_cons (psm_asg (pm_var 6) (gm_tup rfl (gsm_cons (gm_name (i := 9) nd) (gsm_cons (gm_name (i := 4) nd) (gsm_cons (gm_name (i := 7) nd) (gsm_nil)))) (gl_cons (gl_cons (gl_cons gl_nil)))))
      (psm_cons (psm_setF (i := 10) nd (pf_lst (paf_nil)))
      (psm_cons (psm_for PassesOwn.never rfl (pim_seq (pm_var 2)) (gm_name (i := 11) nd) (psm_one (psm_append (pp_var 10) (pm_lc (own := [("j", 12)]) rfl nd (pim_seqB (pm_var 2)) (blkOk_by (by rfl)) (fun _ _ _ _ _ => gm_name (i := 12) nd) (fun _ _ _ _ _ => ptsm_nil) (fun _ _ _ _ _ => pm_and (pm_cmp (op_neD hr.units) r2m_ne (pm_var 12) (pm_var 11) (nomark _)) (pm_one (pm_not (pm_call (ok_is_less X) (hr.mono (by decide)) (by rfl) X.g_is_less X.F_is_less.kp X.b_is_less (pam_cons (pm_var 9) (pam_cons (pm_ix ix_seq r2m_ix (pm_ix ix_seq r2m_ix (pm_var 3) (pm_var 11) (fun _ _ => rfl)) (pm_var 12) (fun _ _ => rfl)) (pam_nil))) (lenS len1)))))))))
      (psm_frz 10 (psm_one (psm_ret (pm_tup (pam_cons (pm_var 9) (pam_cons (pm_call (ok_way_between X) (hr.mono (by decide)) (by rfl) X.g_way_between X.F_way_between.kp X.b_way_between (pam_cons (pm_var 10) (pam_cons (pm_var 4) (pam_cons (pm_var 7) (pam_nil)))) (lenS (lenS len1))) (pam_nil))))))))))))))))))
set_option maxHeartbeats 4000000 in
theorem ok__law_cell_at (X : Tx K mg) : FnOk P w K mg base CX0 1 X.a__law_cell_at X.d__law_cell_at ["script", "k"] (spT K 2 Q.law_cell_at) := by
  have nd : (N__law_cell_at).Nodup := sc__law_cell_at.nd
  exact fn_ok (k := 0) (N := N__law_cell_at) X.F__law_cell_at sc__law_cell_at fun cdv A outer s H E hr =>
    psm_cons (psm_if (ptm_cmp op_lt r2m_lt (pm_var 1) (pm_callB call_lenA cm_len (by rfl) X.z_len bt_len (pam_cons (pm_var 0) (pam_nil))) (nomark _)) (psm_one (psm_ret (pm_ix ix_seq r2m_ix (pm_var 0) (pm_var 1) (fun _ _ => rfl)))) (psm_nil))
      (psm_one (psm_ret (pm_int)))
set_option maxHeartbeats 4000000 in
theorem ok__law_draws (X : Tx K mg) : FnOk P w K mg base CX0 1 X.a__law_draws X.d__law_draws ["cell", "many", "base"] (spT K 3 Q.law_draws) := by
  have nd : (N__law_draws).Nodup := sc__law_draws.nd
  exact fn_ok (k := 0) (N := N__law_draws) X.F__law_draws sc__law_draws fun cdv A outer s H E hr =>
    psm_cons (psm_setF (i := 3) nd (pf_lst (paf_nil)))
      (psm_cons (psm_set (i := 4) nd (pm_op op_mulA r2m_mul (pm_var 0) (pm_callTy call_intA cm_int (by rfl) X.z_int bt_int (pam_cons (pm_cmp op_ge r2m_ge (pm_var 0) (pm_op op_pow r2m_pow (pm_int) (pm_int)) (nomark _)) (pam_nil)))))
      (psm_cons (psm_set (i := 5) nd (pm_op op_modN r2m_mod (pm_var 0) (pm_int)))
      (psm_cons (psm_for PassesOwn.never rfl (pim_range1 (fz := true) (by rfl) X.z_range (pm_op op_addA r2m_add (pm_var 1) (pm_int))) (gm_name (i := 6) nd) (psm_cons (psm_set (i := 5) nd (pm_op op_modN r2m_mod (pm_op op_addA r2m_add (pm_op op_addA r2m_add (pm_op op_addA r2m_add (pm_op op_mulA r2m_mul (pm_var 5) (pm_var 5)) (pm_op op_mulA r2m_mul (pm_int) (pm_var 5))) (pm_var 6)) (pm_int)) (pm_int)))
      (psm_one (psm_if (ptm_w (pwm_and (ptm_cmp op_gt r2m_gt (pm_var 6) (pm_int) (nomark _)) (pwm_and1 (ptm_cmp op_gt r2m_gt (pm_var 4) (pm_int) (nomark _))))) (psm_cons (psm_append (pp_var 3) (pm_op op_modN r2m_mod (pm_var 4) (pm_var 2)))
      (psm_one (psm_set (i := 4) nd (pm_op op_fdivB r2m_fdiv (pm_var 4) (pm_var 2))))) (psm_one (psm_if (ptm_cmp op_gt r2m_gt (pm_var 6) (pm_int) (nomark _)) (psm_one (psm_append (pp_var 3) (pm_op op_modN r2m_mod (pm_op op_fdivB r2m_fdiv (pm_var 5) (pm_int)) (pm_var 2)))) (psm_nil)))))))
      (psm_one (psm_retV 3)))))
set_option maxHeartbeats 4000000 in
theorem ok__law_best_good (X : Tx K mg) : FnOk P w K mg base CX0 1 X.a__law_best_good X.d__law_best_good ["prices", "weights", "amount"] (spT K 3 Q.law_best_good) := by
  have nd : (N__law_best_good).Nodup := sc__law_best_good.nd
  exact fn_ok (k := 0) (N := N__law_best_good) X.F__law_best_good sc__law_best_good fun cdv A outer s H E hr =>
    psm_cons (psm_set (i := 3) nd (pm_int))
      (psm_cons (psm_for PassesOwn.never rfl (pim_range1 (fz := true) (by rfl) X.z_range (pm_callB call_lenA cm_len (by rfl) X.z_len bt_len (pam_cons (pm_var 0) (pam_nil)))) (gm_name (i := 4) nd) (psm_cons (psm_set (i := 5) nd (pm_op op_mulA r2m_mul (pm_op op_addA r2m_add (pm_int) (pm_op op_modN r2m_mod (pm_ix ix_seq r2m_ix (pm_var 1) (pm_var 4) (fun _ _ => rfl)) (pm_int))) (pm_ix ix_seq r2m_ix (pm_var 0) (pm_var 3) (fun _ _ => rfl))))
      (psm_one (psm_if (ptm_cmp op_gt r2m_gt (pm_var 5) (pm_op op_mulA r2m_mul (pm_op op_addA r2m_add (pm_int) (pm_op op_modN r2m_mod (pm_ix ix_seq r2m_ix (pm_var 1) (pm_var 3) (fun _ _ => rfl)) (pm_int))) (pm_ix ix_seq r2m_ix (pm_var 0) (pm_var 4) (fun _ _ => rfl))) (nomark _)) (psm_one (psm_set (i := 3) nd (pm_var 4))) (psm_nil)))))
      (psm_one (psm_ret (pm_lc (own := [("k", 4)]) rfl nd (pim_range1 (fz := true) (by rfl) X.z_range (pm_callB call_lenA cm_len (by rfl) X.z_len bt_len (pam_cons (pm_var 0) (pam_nil)))) (blkOk_by (by rfl)) (fun _ _ _ _ _ => gm_name (i := 4) nd) (fun _ _ _ _ _ => ptsm_nil) (fun _ _ _ _ _ => pm_op op_mulA r2m_mul (pm_var 2) (pm_callTy call_intA cm_int (by rfl) X.z_int bt_int (pam_cons (pm_cmp (op_eqD hr.units) r2m_eq (pm_var 4) (pm_var 3) (nomark _)) (pam_nil))))))))
set_option maxHeartbeats 4000000 in
theorem ok__law_a_book (X : Tx K mg) : FnOk P w K mg base CX0 2 X.a__law_a_book X.d__law_a_book ["script", "at", "most"] (spT K 3 Q.law_a_book) := by
  have nd : (N__law_a_book).Nodup := sc__law_a_book.nd
  exact fn_ok (k := 1) (N := N__law_a_book) X.F__law_a_book sc__law_a_book fun cdv A outer s H E hr =>
    psm_cons (psm_set (i := 3) nd (pm_call (ok__law_draws X) (hr.mono (by decide)) (by rfl) X.g__law_draws X.F__law_draws.kp X.b__law_draws (pam_cons (pm_call (ok__law_cell_at X) (hr.mono (by decide)) (by rfl) X.g__law_cell_at X.F__law_cell_at.kp X.b__law_cell_at (pam_cons (pm_var 0) (pam_cons (pm_var 1) (pam_nil))) (lenS len1)) (pam_cons (pm_int) (pam_cons (pm_op op_pow r2m_pow (pm_int) (pm_int)) (pam_nil)))) (lenS (lenS len1))))
      (psm_cons (psm_set (i := 4) nd (pm_ix ix_seq r2m_ix (pm_lst (pam_cons (pm_op op_addA r2m_add (pm_int) (pm_op op_modN r2m_mod (pm_ix ix_seq r2m_ix (pm_var 3) (pm_int) (fun _ _ => rfl)) (pm_int))) (pam_cons (pm_int) (pam_cons (pm_op op_addA r2m_add (pm_int) (pm_op op_modN r2m_mod (pm_ix ix_seq r2m_ix (pm_var 3) (pm_int) (fun _ _ => rfl)) (pm_int))) (pam_nil))))) (pm_op op_modN r2m_mod (pm_ix ix_seq r2m_ix (pm_var 3) (pm_int) (fun _ _ => rfl)) (pm_int)) (fun _ _ => rfl)))
      (psm_cons (psm_set (i := 5) nd (pm_ix ix_seq r2m_ix (pm_lst (pam_cons (pm_op op_addA r2m_add (pm_int) (pm_op op_modN r2m_mod (pm_ix ix_seq r2m_ix (pm_var 3) (pm_int) (fun _ _ => rfl)) (pm_var 2))) (pam_cons (pm_op op_addA r2m_add (pm_int) (pm_op op_modN r2m_mod (pm_ix ix_seq r2m_ix (pm_var 3) (pm_int) (fun _ _ => rfl)) (pm_callB (cr_minA rfl hr.units) cm_min (by rfl) X.z_min bt_min (pam_cons (pm_var 2) (pam_cons (pm_int) (pam_nil)))))) (pam_nil)))) (pm_op op_fdivB r2m_fdiv (pm_op op_modN r2m_mod (pm_ix ix_seq r2m_ix (pm_var 3) (pm_int) (fun _ _ => rfl)) (pm_int)) (pm_int)) (fun _ _ => rfl)))
      (psm_cons (psm_set (i := 6) nd (pm_ix ix_seq r2m_ix (pm_lst (pam_cons (pm_int) (pam_cons (pm_int) (pam_cons (pm_int) (pam_cons (pm_op op_pow r2m_pow (pm_int) (pm_int)) (pam_nil)))))) (pm_op op_modN r2m_mod (pm_ix ix_seq r2m_ix (pm_var 3) (pm_int) (fun _ _ => rfl)) (pm_int)) (fun _ _ => rfl)))
      (psm_cons (psm_set (i := 7) nd (pm_op op_modN r2m_mod (pm_ix ix_seq r2m_ix (pm_var 3) (pm_int) (fun _ _ => rfl)) (pm_int)))
      (psm_cons (psm_setF (i := 8) nd (pf_lst (paf_nil)))
      (psm_cons (psm_for PassesOwn.never rfl (pim_range1 (fz := true) (by rfl) X.z_range (pm_var 5)) (gm_name (i := 9) nd) (psm_cons (psm_set (i := 10) nd (pm_call (ok__law_draws X) (hr.mono (by decide)) (by rfl) X.g__law_draws X.F__law_draws.kp X.b__law_draws (pam_cons (pm_op op_addA r2m_add (pm_call (ok__law_cell_at X) (hr.mono (by decide)) (by rfl) X.g__law_cell_at X.F__law_cell_at.kp X.b__law_cell_at (pam_cons (pm_var 0) (pam_cons (pm_op op_addA r2m_add (pm_var 1) (pm_int)) (pam_nil))) (lenS len1)) (pm_op op_mulA r2m_mul (pm_var 9) (pm_op op_addA r2m_add (pm_ix ix_seq r2m_ix (pm_var 3) (pm_int) (fun _ _ => rfl)) (pm_int)))) (pam_cons (pm_int) (pam_cons (pm_op op_pow r2m_pow (pm_int) (pm_int)) (pam_nil)))) (lenS (lenS len1))))
      (psm_cons (psm_setLc (i := 11) (own := [("pick", 15)]) rfl nd (pim_seqB (pm_slice (pm_var 10) (pom_none) (pom_some (pm_var 4)))) (blkOk_by (by rfl)) (fun _ _ _ _ _ => gm_name (i := 15) nd) (fun _ _ _ _ _ => ptsm_nil) (fun _ _ _ _ _ => pm_op op_addA r2m_add (pm_int) (pm_op op_modN r2m_mod (pm_var 15) (pm_var 6))) (sw_true rfl rfl rfl (by rfl)))
      (psm_cons (psm_set (i := 12) nd (pm_slice (pm_var 10) (pom_some (pm_int)) (pom_some (pm_op op_addA r2m_add (pm_int) (pm_var 4)))))
      (psm_cons (psm_setLc (i := 13) (own := [("pick", 15)]) rfl nd (pim_seqB (pm_var 12)) (blkOk_by (by rfl)) (fun _ _ _ _ _ => gm_name (i := 15) nd) (fun _ _ _ _ _ => ptsm_nil) (fun _ _ _ _ _ => pm_op op_mulA r2m_mul (pm_op op_modN r2m_mod (pm_var 15) (pm_op op_addA r2m_add (pm_var 6) (pm_int))) (pm_callTy call_intA cm_int (by rfl) X.z_int bt_int (pam_cons (pm_cmp op_gt r2m_gt (pm_op op_modN r2m_mod (pm_var 15) (pm_int)) (pm_int) (nomark _)) (pam_nil)))) (sw_true rfl rfl rfl (by rfl)))
      (psm_cons (psm_if (ptm_cmp (op_eqD hr.units) r2m_eq (pm_var 7) (pm_int) (nomark _)) (psm_one (psm_set (i := 13) nd (pm_call (ok__law_best_good X) (hr.mono (by decide)) (by rfl) X.g__law_best_good X.F__law_best_good.kp X.b__law_best_good (pam_cons (pm_var 11) (pam_cons (pm_slice (pm_var 3) (pom_some (pm_int)) (pom_some (pm_op op_addA r2m_add (pm_int) (pm_var 4)))) (pam_cons (pm_op op_addA r2m_add (pm_int) (pm_op op_modN r2m_mod (pm_ix ix_seq r2m_ix (pm_var 10) (pm_int) (fun _ _ => rfl)) (pm_var 6))) (pam_nil)))) (lenS (lenS len1))))) (psm_nil))
      (psm_cons (psm_if (ptm_cmp (op_eqD hr.units) r2m_eq (pm_var 7) (pm_int) (nomark _)) (psm_one (psm_setLc (i := 13) (own := [("price", 16)]) rfl nd (pim_seqB (pm_var 11)) (blkOk_by (by rfl)) (fun _ _ _ _ _ => gm_name (i := 16) nd) (fun _ _ _ _ _ => ptsm_nil) (fun _ _ _ _ _ => pm_op op_sub r2m_sub (pm_op op_addA r2m_add (pm_var 6) (pm_int)) (pm_var 16)) (sw_true rfl rfl rfl (by rfl)))) (psm_nil))
      (psm_cons (psm_if (ptm_cmp (op_eqD hr.units) r2m_eq (pm_op op_modN r2m_mod (pm_ix ix_seq r2m_ix (pm_var 10) (pm_int) (fun _ _ => rfl)) (pm_int)) (pm_int) (nomark _)) (psm_one (psm_setLc (i := 13) (own := [("pick", 15)]) rfl nd (pim_seqB (pm_slice (pm_var 10) (pom_some (pm_int)) (pom_some (pm_op op_addA r2m_add (pm_int) (pm_var 4))))) (blkOk_by (by rfl)) (fun _ _ _ _ _ => gm_name (i := 15) nd) (fun _ _ _ _ _ => ptsm_nil) (fun _ _ _ _ _ => pm_op op_modN r2m_mod (pm_var 15) (pm_var 6)) (sw_true rfl rfl rfl (by rfl)))) (psm_nil))
      (psm_cons (psm_setLcF (i := 13) (own := [("amount", 17)]) rfl nd (pim_seqB (pm_var 13)) (blkOk_by (by rfl)) (fun _ _ _ _ _ => gm_name (i := 17) nd) (fun _ _ _ _ _ => ptsm_nil) (fun _ _ _ _ _ => pm_callB (cr_minA rfl hr.units) cm_min (by rfl) X.z_min bt_min (pam_cons (pm_op op_pow r2m_pow (pm_int) (pm_int)) (pam_cons (pm_var 17) (pam_nil)))) (sw_true rfl rfl rfl (by rfl)))
      (psm_cons (psm_if (ptm_cmp (op_eqD hr.units) r2m_eq (pm_callB (cr_maxA rfl hr.units) cm_max (by rfl) X.z_max bt_max (pam_cons (pm_var 13) (pam_nil))) (pm_int) (nomark _)) (psm_one (psm_setIx (pp_var 13) (pm_op op_modN r2m_mod (pm_ix ix_seq r2m_ix (pm_var 10) (pm_int) (fun _ _ => rfl)) (pm_var 4)) (pm_int))) (psm_nil))
      (psm_frz 13 (psm_cons (psm_set (i := 14) nd (pm_tup (pam_cons (pm_callTy call_tuple_of cm_tuple (by rfl) X.z_tuple bt_tuple (pam_cons (pm_var 11) (pam_nil))) (pam_cons (pm_callTy call_tuple_of cm_tuple (by rfl) X.z_tuple bt_tuple (pam_cons (pm_var 13) (pam_nil))) (pam_nil)))))
      (psm_cons (psm_if (ptm_w (pwm_and (ptm_cmp (op_neD hr.units) r2m_ne (pm_var 8) (pm_lst (pam_nil)) (nomark _)) (pwm_and1 (ptm_cmp (op_eqD hr.units) r2m_eq (pm_op op_modN r2m_mod (pm_op op_fdivB r2m_fdiv (pm_ix ix_seq r2m_ix (pm_var 10) (pm_int) (fun _ _ => rfl)) (pm_int)) (pm_int)) (pm_int) (nomark _))))) (psm_one (psm_set (i := 14) nd (pm_tup (pam_cons (pm_ix ix_seq r2m_ix (pm_var 14) (pm_int) (fun _ _ => rfl)) (pam_cons (pm_ix ix_seq r2m_ix (pm_ix ix_seq r2m_ix (pm_var 8) (pm_op op_modN r2m_mod (pm_op op_fdivB r2m_fdiv (pm_ix ix_seq r2m_ix (pm_var 10) (pm_int) (fun _ _ => rfl)) (pm_int)) (pm_callB call_lenA cm_len (by rfl) X.z_len bt_len (pam_cons (pm_var 8) (pam_nil)))) (fun _ _ => rfl)) (pm_int) (fun _ _ => rfl)) (pam_nil)))))) (psm_nil))
      (psm_one (psm_append (pp_var 8) (pm_var 14))))))))))))))))
      (psm_one (psm_retV 8))))))))
set_option maxHeartbeats 4000000 in
theorem ok__law_cost (X : Tx K mg) : FnOk P w K mg base CX0 1 X.a__law_cost X.d__law_cost ["prices", "amounts"] (spT K 2 Q.law_cost) := by
  have nd : (N__law_cost).Nodup := sc__law_cost.nd
  exact fn_ok (k := 0) (N := N__law_cost) X.F__law_cost sc__law_cost fun cdv A outer s H E hr =>
    psm_cons (psm_set (i := 2) nd (pm_int))
      (psm_cons (psm_for PassesOwn.never rfl (pim_range1 (fz := true) (by rfl) X.z_range (pm_callB call_lenA cm_len (by rfl) X.z_len bt_len (pam_cons (pm_var 0) (pam_nil)))) (gm_name (i := 3) nd) (psm_one (psm_set (i := 2) nd (pm_op op_addA r2m_add (pm_var 2) (pm_op op_mulA r2m_mul (pm_ix ix_seq r2m_ix (pm_var 0) (pm_var 3) (fun _ _ => rfl)) (pm_ix ix_seq r2m_ix (pm_var 1) (pm_var 3) (fun _ _ => rfl)))))))
      (psm_one (psm_retV 2)))
set_option maxHeartbeats 4000000 in
theorem ok__law_a_costs (X : Tx K mg) : FnOk P w K mg base CX0 2 X.a__law_a_costs X.d__law_a_costs ["book"] (spT K 1 Q.law_a_costs) := by
  have nd : (N__law_a_costs).Nodup := sc__law_a_costs.nd
  exact fn_ok (k := 1) (N := N__law_a_costs) X.F__law_a_costs sc__law_a_costs fun cdv A outer s H E hr =>
    psm_cons (psm_setF (i := 1) nd (pf_lst (paf_nil)))
      (psm_cons (psm_for PassesOwn.never rfl (pim_seq (pm_var 0)) (gm_tup rfl (gsm_cons (gm_name (i := 2) nd) (gsm_cons (gm_name (i := 3) nd) (gsm_nil))) (gl_cons (gl_cons gl_nil))) (psm_one (psm_append (pp_var 1) (pm_lc (own := [("other", 4)]) rfl nd (pim_seqB (pm_var 0)) (blkOk_by (by rfl)) (fun _ _ _ _ _ => gm_name (i := 4) nd) (fun _ _ _ _ _ => ptsm_nil) (fun _ _ _ _ _ => pm_call (ok__law_cost X) (hr.mono (by decide)) (by rfl) X.g__law_cost X.F__law_cost.kp X.b__law_cost (pam_cons (pm_var 2) (pam_cons (pm_ix ix_seq r2m_ix (pm_var 4) (pm_int) (fun _ _ => rfl)) (pam_nil))) (lenS len1))))))
      (psm_one (psm_retV 1)))
set_option maxHeartbeats 4000000 in
theorem ok__law_less (X : Tx K mg) : FnOk P w K mg base CX0 1 X.a__law_less X.d__law_less ["one", "other"] (spT K 2 Q.law_less) := by
  have nd : (N__law_less).Nodup := sc__law_less.nd
  exact fn_ok (k := 0) (N := N__law_less) X.F__law_less sc__law_less fun cdv A outer s H E hr =>
    psm_one (psm_ret (pm_cmp op_lt r2m_lt (pm_op op_mulA r2m_mul (pm_ix ix_seq r2m_ix (pm_var 0) (pm_int) (fun _ _ => rfl)) (pm_ix ix_seq r2m_ix (pm_var 1) (pm_int) (fun _ _ => rfl))) (pm_op op_mulA r2m_mul (pm_ix ix_seq r2m_ix (pm_var 1) (pm_int) (fun _ _ => rfl)) (pm_ix ix_seq r2m_ix (pm_var 0) (pm_int) (fun _ _ => rfl))) (nomark _)))
set_option maxHeartbeats 4000000 in
theorem ok__law_a_share (X : Tx K mg) : FnOk P w K mg base CX0 2 X.a__law_a_share X.d__law_a_share ["costs", "numbers"] (spT K 2 Q.law_a_share) := by
  have nd : (N__law_a_share).Nodup := sc__law_a_share.nd
  exact fn_ok (k := 1) (N := N__law_a_share) X.F__law_a_share sc__law_a_share fun cdv A outer s H E hr =>
    psm_cons (psm_set (i := 2) nd (pm_tup (pam_cons (pm_int) (pam_cons (pm_int) (pam_nil)))))
      (psm_cons (psm_for PassesOwn.never rfl (pim_range1 (fz := true) (by rfl) X.z_range (pm_callB call_lenA cm_len (by rfl) X.z_len bt_len (pam_cons (pm_var 1) (pam_nil)))) (gm_name (i := 3) nd) (psm_cons (psm_set (i := 4) nd (pm_ix ix_seq r2m_ix (pm_var 1) (pm_op op_sub r2m_sub (pm_var 3) (pm_int)) (fun _ _ => rfl)))
      (psm_cons (psm_set (i := 5) nd (pm_tup (pam_cons (pm_ix ix_seq r2m_ix (pm_ix ix_seq r2m_ix (pm_var 0) (pm_var 4) (fun _ _ => rfl)) (pm_ix ix_seq r2m_ix (pm_var 1) (pm_var 3) (fun _ _ => rfl)) (fun _ _ => rfl)) (pam_cons (pm_ix ix_seq r2m_ix (pm_ix ix_seq r2m_ix (pm_var 0) (pm_var 4) (fun _ _ => rfl)) (pm_var 4) (fun _ _ => rfl)) (pam_nil)))))
      (psm_one (psm_if (ptm_val (pm_call (ok__law_less X) (hr.mono (by decide)) (by rfl) X.g__law_less X.F__law_less.kp X.b__law_less (pam_cons (pm_var 2) (pam_cons (pm_var 5) (pam_nil))) (lenS len1))) (psm_one (psm_set (i := 2) nd (pm_var 5))) (psm_nil))))))
      (psm_one (psm_retV 2)))
set_option maxHeartbeats 4000000 in
theorem ok_law (X : Tx K mg) : FnOk P w K mg base CX0 5 X.a_law X.d_law ["script"] (spT K 1 Q.k36_law) := by
  have nd : (N_law).Nodup := sc_law.nd
  exact fn_ok (k := 4) (N := N_law) X.F_law sc_law fun cdv A outer s H E hr =>
    psm_cons (psm_set (i := 1) nd (pm_call (ok__law_a_book X) (hr.mono (by decide)) (by rfl) X.g__law_a_book X.F__law_a_book.kp X.b__law_a_book (pam_cons (pm_var 0) (pam_cons (pm_int) (pam_cons (pm_int) (pam_nil)))) (lenS (lenS len1))))
      (psm_cons (psm_set (i := 1) nd (pm_op op_addA r2m_add (pm_var 1) (pm_lst (pam_cons (pm_tup (pam_cons (pm_revA (pm_ix ix_seq r2m_ix (pm_ix ix_seq r2m_ix (pm_var 1) (pm_int) (fun _ _ => rfl)) (pm_int) (fun _ _ => rfl))) (pam_cons (pm_ix ix_seq r2m_ix (pm_ix ix_seq r2m_ix (pm_var 1) (pm_neg (pm_int)) (fun _ _ => rfl)) (pm_int) (fun _ _ => rfl)) (pam_nil)))) (pam_nil)))))
      (psm_cons (psm_set (i := 2) nd (pm_call (ok__law_draws X) (hr.mono (by decide)) (by rfl) X.g__law_draws X.F__law_draws.kp X.b__law_draws (pam_cons (pm_call (ok__law_cell_at X) (hr.mono (by decide)) (by rfl) X.g__law_cell_at X.F__law_cell_at.kp X.b__law_cell_at (pam_cons (pm_var 0) (pam_cons (pm_int) (pam_nil))) (lenS len1)) (pam_cons (pm_int) (pam_cons (pm_int) (pam_nil)))) (lenS (lenS len1))))
      (psm_cons (psm_asg (pm_call (ok_leak X) (hr.mono (by decide)) (by rfl) X.g_leak X.F_leak.kp X.b_leak (pam_cons (pm_var 1) (pam_nil)) len1) (gm_tup rfl (gsm_cons (gm_name (i := 3) nd) (gsm_cons (gm_name (i := 4) nd) (gsm_nil))) (gl_cons (gl_cons gl_nil))))
      (psm_cons (psm_set (i := 5) nd (pm_op op_modN r2m_mod (pm_ix ix_seq r2m_ix (pm_var 2) (pm_int) (fun _ _ => rfl)) (pm_callB call_lenA cm_len (by rfl) X.z_len bt_len (pam_cons (pm_var 1) (pam_nil)))))
      (psm_cons (psm_asg (pm_ix ix_seq r2m_ix (pm_var 1) (pm_var 5) (fun _ _ => rfl)) (gm_tup rfl (gsm_cons (gm_name (i := 6) nd) (gsm_cons (gm_name (i := 7) nd) (gsm_nil))) (gl_cons (gl_cons gl_nil))))
      (psm_cons (psm_set (i := 8) nd (pm_op op_addA r2m_add (pm_int) (pm_op op_modN r2m_mod (pm_ix ix_seq r2m_ix (pm_var 2) (pm_int) (fun _ _ => rfl)) (pm_callB (cr_maxA rfl hr.units) cm_max (by rfl) X.z_max bt_max (pam_cons (pm_int) (pam_cons (pm_callB (cr_minA rfl hr.units) cm_min (by rfl) X.z_min bt_min (pam_cons (pm_int) (pam_cons (pm_op op_fdivB r2m_fdiv (pm_op op_pow r2m_pow (pm_int) (pm_int)) (pm_callB (cr_maxA rfl hr.units) cm_max (by rfl) X.z_max bt_max (pam_cons (pm_var 6) (pam_nil)))) (pam_nil)))) (pam_nil)))))))
      (psm_cons (psm_setF (i := 9) nd (pf_list (by rfl) X.z_list (pm_var 1)))
      (psm_cons (psm_setIx (pp_var 9) (pm_var 5) (pm_tup (pam_cons (pm_callTy call_tuple_of cm_tuple (by rfl) X.z_tuple bt_tuple (pam_cons (pm_lc (own := [("price", 13)]) rfl nd (pim_seqB (pm_var 6)) (blkOk_by (by rfl)) (fun _ _ _ _ _ => gm_name (i := 13) nd) (fun _ _ _ _ _ => ptsm_nil) (fun _ _ _ _ _ => pm_op op_mulA r2m_mul (pm_var 13) (pm_var 8))) (pam_nil))) (pam_cons (pm_var 7) (pam_nil)))))
      (psm_frz 9 (psm_cons (psm_if (ptm_w (pwm_or (ptm_cmp (op_neD hr.units) r2m_ne (pm_ix ix_seq r2m_ix (pm_call (ok_leak X) (hr.mono (by decide)) (by rfl) X.g_leak X.F_leak.kp X.b_leak (pam_cons (pm_var 9) (pam_nil)) len1) (pm_int) (fun _ _ => rfl)) (pm_var 3) (nomark _)) (pwm_or1 (ptm_cmp (op_neD hr.units) r2m_ne (pm_ix ix_seq r2m_ix (pm_call (ok_leak X) (hr.mono (by decide)) (by rfl) X.g_leak X.F_leak.kp X.b_leak (pam_cons (pm_op op_addA r2m_add (pm_slice (pm_var 1) (pom_some (pm_var 5)) (pom_none)) (pm_slice (pm_var 1) (pom_none) (pom_some (pm_var 5)))) (pam_nil)) len1) (pm_int) (fun _ _ => rfl)) (pm_var 3) (nomark _))))) (psm_one (psm_ret (pm_bl))) (psm_nil))
      (psm_cons (psm_set (i := 10) nd (pm_ix ix_seq r2m_ix (pm_call (ok_leak X) (hr.mono (by decide)) (by rfl) X.g_leak X.F_leak.kp X.b_leak (pam_cons (pm_op op_addA r2m_add (pm_var 1) (pm_lst (pam_cons (pm_ix ix_seq r2m_ix (pm_var 1) (pm_var 5) (fun _ _ => rfl)) (pam_nil)))) (pam_nil)) len1) (pm_int) (fun _ _ => rfl)))
      (psm_cons (psm_if (ptm_cmp (op_neD hr.units) r2m_ne (pm_var 10) (pm_ix ix_seq r2m_ix (pm_lst (pam_cons (pm_var 3) (pam_cons (pm_tup (pam_cons (pm_int) (pam_cons (pm_int) (pam_nil)))) (pam_nil)))) (pm_callTy call_intA cm_int (by rfl) X.z_int bt_int (pam_cons (pm_call (ok__law_less X) (hr.mono (by decide)) (by rfl) X.g__law_less X.F__law_less.kp X.b__law_less (pam_cons (pm_tup (pam_cons (pm_int) (pam_cons (pm_int) (pam_nil)))) (pam_cons (pm_var 3) (pam_nil))) (lenS len1)) (pam_nil))) (fun _ _ => rfl)) (nomark _)) (psm_one (psm_ret (pm_bl))) (psm_nil))
      (psm_cons (psm_if (ptm_w (pwm_and (ptm_cmp op_gt r2m_gt (pm_callB call_lenA cm_len (by rfl) X.z_len bt_len (pam_cons (pm_var 1) (pam_nil))) (pm_int) (nomark _)) (pwm_and1 (ptm_val (pm_call (ok__law_less X) (hr.mono (by decide)) (by rfl) X.g__law_less X.F__law_less.kp X.b__law_less (pam_cons (pm_ix ix_seq r2m_ix (pm_call (ok_leak X) (hr.mono (by decide)) (by rfl) X.g_leak X.F_leak.kp X.b_leak (pam_cons (pm_op op_addA r2m_add (pm_slice (pm_var 1) (pom_none) (pom_some (pm_var 5))) (pm_slice (pm_var 1) (pom_some (pm_op op_addA r2m_add (pm_var 5) (pm_int))) (pom_none))) (pam_nil)) len1) (pm_int) (fun _ _ => rfl)) (pam_cons (pm_var 3) (pam_nil))) (lenS len1)))))) (psm_one (psm_ret (pm_bl))) (psm_nil))
      (psm_cons (psm_setLc (i := 11) (own := [("number", 14)]) rfl nd (pim_seqB (pm_var 4)) (blkOk_by (by rfl)) (fun _ _ _ _ _ => gm_name (i := 14) nd) (fun _ _ _ _ _ => ptsm_nil) (fun _ _ _ _ _ => pm_op op_sub r2m_sub (pm_op op_sub r2m_sub (pm_callB call_lenA cm_len (by rfl) X.z_len bt_len (pam_cons (pm_var 1) (pam_nil))) (pm_int)) (pm_var 14)) (sw_true rfl rfl rfl (by rfl)))
      (psm_cons (psm_set (i := 12) nd (pm_call (ok__law_a_share X) (hr.mono (by decide)) (by rfl) X.g__law_a_share X.F__law_a_share.kp X.b__law_a_share (pam_cons (pm_call (ok__law_a_costs X) (hr.mono (by decide)) (by rfl) X.g__law_a_costs X.F__law_a_costs.kp X.b__law_a_costs (pam_cons (pm_revA (pm_var 1)) (pam_nil)) len1) (pam_cons (pm_var 11) (pam_nil))) (lenS len1)))
      (psm_one (psm_ret (pm_and (pm_not (pm_call (ok__law_less X) (hr.mono (by decide)) (by rfl) X.g__law_less X.F__law_less.kp X.b__law_less (pam_cons (pm_var 12) (pam_cons (pm_var 3) (pam_nil))) (lenS len1))) (pm_one (pm_not (pm_call (ok__law_less X) (hr.mono (by decide)) (by rfl) X.g__law_less X.F__law_less.kp X.b__law_less (pam_cons (pm_var 3) (pam_cons (pm_var 12) (pam_nil))) (lenS len1))))))))))))))))))))))
end
end W
namespace W
open M
theorem law_true (ns : List Int) (_ : ns.length ≤ 63) : Q.k36_law [.sc ns] = some (.p (.bool true)) := C.k36_true ns
end W
namespace W
open PySem PySem.Spec PyProof.Rows L2 M
theorem all_mk {l : PySem.W.OpenLaw} {w : World} {K : PySem.W.Frag} {h : Heap} {mg : Str → Option Value} {fa : Addr} (Y : K.In h) (G : h.Ns mainGlobals mg) (hfa : mg "law" = some (.ref fa))
    {f0 : Addr} {od0 an0 : Option Addr} {sl0 : Array (Option Value)} {oc0 kV0 dc0 pm0 cd0 ct0 : Value}
    (a0 : PySem.W.nsIn K mainGlobals "cost_at" = some (some (.ref f0))) (l0 : K.lookup f0 = some ⟨oc0, od0, .func (PySem.W.fnOf "cost_at" "cost_at" (defArgs s_cost_at) (defBody s_cost_at) (defScope s_cost_at) .none kV0 dc0 pm0 an0 cd0 ct0), sl0⟩) (c0 : PySem.W.codeIn K cd0 "cost_at" = true) (k0 : PySem.W.keepIn K (.ref f0) = true)
    {f1 : Addr} {od1 an1 : Option Addr} {sl1 : Array (Option Value)} {oc1 kV1 dc1 pm1 cd1 ct1 : Value}
    (a1 : PySem.W.nsIn K mainGlobals "costs_of" = some (some (.ref f1))) (l1 : K.lookup f1 = some ⟨oc1, od1, .func (PySem.W.fnOf "costs_of" "costs_of" (defArgs s_costs_of) (defBody s_costs_of) (defScope s_costs_of) .none kV1 dc1 pm1 an1 cd1 ct1), sl1⟩) (c1 : PySem.W.codeIn K cd1 "costs_of" = true) (k1 : PySem.W.keepIn K (.ref f1) = true)
    {f2 : Addr} {od2 an2 : Option Addr} {sl2 : Array (Option Value)} {oc2 kV2 dc2 pm2 cd2 ct2 : Value}
    (a2 : PySem.W.nsIn K mainGlobals "divisor" = some (some (.ref f2))) (l2 : K.lookup f2 = some ⟨oc2, od2, .func (PySem.W.fnOf "divisor" "divisor" (defArgs s_divisor) (defBody s_divisor) (defScope s_divisor) .none kV2 dc2 pm2 an2 cd2 ct2), sl2⟩) (c2 : PySem.W.codeIn K cd2 "divisor" = true) (k2 : PySem.W.keepIn K (.ref f2) = true)
    {f3 : Addr} {od3 an3 : Option Addr} {sl3 : Array (Option Value)} {oc3 kV3 dc3 pm3 cd3 ct3 : Value}
    (a3 : PySem.W.nsIn K mainGlobals "fraction" = some (some (.ref f3))) (l3 : K.lookup f3 = some ⟨oc3, od3, .func (PySem.W.fnOf "fraction" "fraction" (defArgs s_fraction) (defBody s_fraction) (defScope s_fraction) .none kV3 dc3 pm3 an3 cd3 ct3), sl3⟩) (c3 : PySem.W.codeIn K cd3 "fraction" = true) (k3 : PySem.W.keepIn K (.ref f3) = true)
    {f4 : Addr} {od4 an4 : Option Addr} {sl4 : Array (Option Value)} {oc4 kV4 dc4 pm4 cd4 ct4 : Value}
    (a4 : PySem.W.nsIn K mainGlobals "is_less" = some (some (.ref f4))) (l4 : K.lookup f4 = some ⟨oc4, od4, .func (PySem.W.fnOf "is_less" "is_less" (defArgs s_is_less) (defBody s_is_less) (defScope s_is_less) .none kV4 dc4 pm4 an4 cd4 ct4), sl4⟩) (c4 : PySem.W.codeIn K cd4 "is_less" = true) (k4 : PySem.W.keepIn K (.ref f4) = true)
    {f5 : Addr} {od5 an5 : Option Addr} {sl5 : Array (Option Value)} {oc5 kV5 dc5 pm5 cd5 ct5 : Value}
    (a5 : PySem.W.nsIn K mainGlobals "greater" = some (some (.ref f5))) (l5 : K.lookup f5 = some ⟨oc5, od5, .func (PySem.W.fnOf "greater" "greater" (defArgs s_greater) (defBody s_greater) (defScope s_greater) .none kV5 dc5 pm5 an5 cd5 ct5), sl5⟩) (c5 : PySem.W.codeIn K cd5 "greater" = true) (k5 : PySem.W.keepIn K (.ref f5) = true)
    {f6 : Addr} {od6 an6 : Option Addr} {sl6 : Array (Option Value)} {oc6 kV6 dc6 pm6 cd6 ct6 : Value}
    (a6 : PySem.W.nsIn K mainGlobals "way_between" = some (some (.ref f6))) (l6 : K.lookup f6 = some ⟨oc6, od6, .func (PySem.W.fnOf "way_between" "way_between" (defArgs s_way_between) (defBody s_way_between) (defScope s_way_between) .none kV6 dc6 pm6 an6 cd6 ct6), sl6⟩) (c6 : PySem.W.codeIn K cd6 "way_between" = true) (k6 : PySem.W.keepIn K (.ref f6) = true)
    {f7 : Addr} {od7 an7 : Option Addr} {sl7 : Array (Option Value)} {oc7 kV7 dc7 pm7 cd7 ct7 : Value}
    (a7 : PySem.W.nsIn K mainGlobals "share_of" = some (some (.ref f7))) (l7 : K.lookup f7 = some ⟨oc7, od7, .func (PySem.W.fnOf "share_of" "share_of" (defArgs s_share_of) (defBody s_share_of) (defScope s_share_of) .none kV7 dc7 pm7 an7 cd7 ct7), sl7⟩) (c7 : PySem.W.codeIn K cd7 "share_of" = true) (k7 : PySem.W.keepIn K (.ref f7) = true)
    {f8 : Addr} {od8 an8 : Option Addr} {sl8 : Array (Option Value)} {oc8 kV8 dc8 pm8 cd8 ct8 : Value}
    (a8 : PySem.W.nsIn K mainGlobals "least_through" = some (some (.ref f8))) (l8 : K.lookup f8 = some ⟨oc8, od8, .func (PySem.W.fnOf "least_through" "least_through" (defArgs s_least_through) (defBody s_least_through) (defScope s_least_through) .none kV8 dc8 pm8 an8 cd8 ct8), sl8⟩) (c8 : PySem.W.codeIn K cd8 "least_through" = true) (k8 : PySem.W.keepIn K (.ref f8) = true)
    {f9 : Addr} {od9 an9 : Option Addr} {sl9 : Array (Option Value)} {oc9 kV9 dc9 pm9 cd9 ct9 : Value}
    (a9 : PySem.W.nsIn K mainGlobals "leak" = some (some (.ref f9))) (l9 : K.lookup f9 = some ⟨oc9, od9, .func (PySem.W.fnOf "leak" "leak" (defArgs s_leak) (defBody s_leak) (defScope s_leak) .none kV9 dc9 pm9 an9 cd9 ct9), sl9⟩) (c9 : PySem.W.codeIn K cd9 "leak" = true) (k9 : PySem.W.keepIn K (.ref f9) = true)
    {f10 : Addr} {od10 an10 : Option Addr} {sl10 : Array (Option Value)} {oc10 kV10 dc10 pm10 cd10 ct10 : Value}
    (a10 : PySem.W.nsIn K mainGlobals "_law_cell_at" = some (some (.ref f10))) (l10 : K.lookup f10 = some ⟨oc10, od10, .func (PySem.W.fnOf "_law_cell_at" "_law_cell_at" (defArgs s__law_cell_at) (defBody s__law_cell_at) (defScope s__law_cell_at) .none kV10 dc10 pm10 an10 cd10 ct10), sl10⟩) (c10 : PySem.W.codeIn K cd10 "_law_cell_at" = true) (k10 : PySem.W.keepIn K (.ref f10) = true)
    {f11 : Addr} {od11 an11 : Option Addr} {sl11 : Array (Option Value)} {oc11 kV11 dc11 pm11 cd11 ct11 : Value}
    (a11 : PySem.W.nsIn K mainGlobals "_law_draws" = some (some (.ref f11))) (l11 : K.lookup f11 = some ⟨oc11, od11, .func (PySem.W.fnOf "_law_draws" "_law_draws" (defArgs s__law_draws) (defBody s__law_draws) (defScope s__law_draws) .none kV11 dc11 pm11 an11 cd11 ct11), sl11⟩) (c11 : PySem.W.codeIn K cd11 "_law_draws" = true) (k11 : PySem.W.keepIn K (.ref f11) = true)
    {f12 : Addr} {od12 an12 : Option Addr} {sl12 : Array (Option Value)} {oc12 kV12 dc12 pm12 cd12 ct12 : Value}
    (a12 : PySem.W.nsIn K mainGlobals "_law_best_good" = some (some (.ref f12))) (l12 : K.lookup f12 = some ⟨oc12, od12, .func (PySem.W.fnOf "_law_best_good" "_law_best_good" (defArgs s__law_best_good) (defBody s__law_best_good) (defScope s__law_best_good) .none kV12 dc12 pm12 an12 cd12 ct12), sl12⟩) (c12 : PySem.W.codeIn K cd12 "_law_best_good" = true) (k12 : PySem.W.keepIn K (.ref f12) = true)
    {f13 : Addr} {od13 an13 : Option Addr} {sl13 : Array (Option Value)} {oc13 kV13 dc13 pm13 cd13 ct13 : Value}
    (a13 : PySem.W.nsIn K mainGlobals "_law_a_book" = some (some (.ref f13))) (l13 : K.lookup f13 = some ⟨oc13, od13, .func (PySem.W.fnOf "_law_a_book" "_law_a_book" (defArgs s__law_a_book) (defBody s__law_a_book) (defScope s__law_a_book) .none kV13 dc13 pm13 an13 cd13 ct13), sl13⟩) (c13 : PySem.W.codeIn K cd13 "_law_a_book" = true) (k13 : PySem.W.keepIn K (.ref f13) = true)
    {f14 : Addr} {od14 an14 : Option Addr} {sl14 : Array (Option Value)} {oc14 kV14 dc14 pm14 cd14 ct14 : Value}
    (a14 : PySem.W.nsIn K mainGlobals "_law_cost" = some (some (.ref f14))) (l14 : K.lookup f14 = some ⟨oc14, od14, .func (PySem.W.fnOf "_law_cost" "_law_cost" (defArgs s__law_cost) (defBody s__law_cost) (defScope s__law_cost) .none kV14 dc14 pm14 an14 cd14 ct14), sl14⟩) (c14 : PySem.W.codeIn K cd14 "_law_cost" = true) (k14 : PySem.W.keepIn K (.ref f14) = true)
    {f15 : Addr} {od15 an15 : Option Addr} {sl15 : Array (Option Value)} {oc15 kV15 dc15 pm15 cd15 ct15 : Value}
    (a15 : PySem.W.nsIn K mainGlobals "_law_a_costs" = some (some (.ref f15))) (l15 : K.lookup f15 = some ⟨oc15, od15, .func (PySem.W.fnOf "_law_a_costs" "_law_a_costs" (defArgs s__law_a_costs) (defBody s__law_a_costs) (defScope s__law_a_costs) .none kV15 dc15 pm15 an15 cd15 ct15), sl15⟩) (c15 : PySem.W.codeIn K cd15 "_law_a_costs" = true) (k15 : PySem.W.keepIn K (.ref f15) = true)
    {f16 : Addr} {od16 an16 : Option Addr} {sl16 : Array (Option Value)} {oc16 kV16 dc16 pm16 cd16 ct16 : Value}
    (a16 : PySem.W.nsIn K mainGlobals "_law_less" = some (some (.ref f16))) (l16 : K.lookup f16 = some ⟨oc16, od16, .func (PySem.W.fnOf "_law_less" "_law_less" (defArgs s__law_less) (defBody s__law_less) (defScope s__law_less) .none kV16 dc16 pm16 an16 cd16 ct16), sl16⟩) (c16 : PySem.W.codeIn K cd16 "_law_less" = true) (k16 : PySem.W.keepIn K (.ref f16) = true)
    {f17 : Addr} {od17 an17 : Option Addr} {sl17 : Array (Option Value)} {oc17 kV17 dc17 pm17 cd17 ct17 : Value}
    (a17 : PySem.W.nsIn K mainGlobals "_law_a_share" = some (some (.ref f17))) (l17 : K.lookup f17 = some ⟨oc17, od17, .func (PySem.W.fnOf "_law_a_share" "_law_a_share" (defArgs s__law_a_share) (defBody s__law_a_share) (defScope s__law_a_share) .none kV17 dc17 pm17 an17 cd17 ct17), sl17⟩) (c17 : PySem.W.codeIn K cd17 "_law_a_share" = true) (k17 : PySem.W.keepIn K (.ref f17) = true)
    {f18 : Addr} {od18 an18 : Option Addr} {sl18 : Array (Option Value)} {oc18 kV18 dc18 pm18 cd18 ct18 : Value}
    (a18 : PySem.W.nsIn K mainGlobals "law" = some (some (.ref f18))) (l18 : K.lookup f18 = some ⟨oc18, od18, .func (PySem.W.fnOf "law" "law" (defArgs s_law) (defBody s_law) (defScope s_law) .none kV18 dc18 pm18 an18 cd18 ct18), sl18⟩) (c18 : PySem.W.codeIn K cd18 "law" = true) (k18 : PySem.W.keepIn K (.ref f18) = true)
    (z0 : PySem.W.nsIn K mainGlobals "abs" = some none)
    (z1 : PySem.W.nsIn K mainGlobals "int" = some none)
    (z2 : PySem.W.nsIn K mainGlobals "len" = some none)
    (z3 : PySem.W.nsIn K mainGlobals "list" = some none)
    (z4 : PySem.W.nsIn K mainGlobals "max" = some none)
    (z5 : PySem.W.nsIn K mainGlobals "min" = some none)
    (z6 : PySem.W.nsIn K mainGlobals "range" = some none)
    (z7 : PySem.W.nsIn K mainGlobals "sum" = some none)
    (z8 : PySem.W.nsIn K mainGlobals "tuple" = some none)
    (z9 : PySem.W.nsIn K mainGlobals "zip" = some none)
    (hl : ∀ ns : List Int, ns.length ≤ 63 → Q.k36_law [.sc ns] = some (.p (.bool true))) :
    ∃ fd : FuncData, (∀ (s : Shared) (v : Value), BindsTo s fd ⟨[v], []⟩ [("script", v)]) ∧ ∀ base : Heap, K.In base → base.Ns mainGlobals mg → FnOk l.prog w K mg base CX0 5 fa fd ["script"] (M.spLaw 63 K) := by
  have e := hfa.symm.trans (PySem.W.mg_of Y G a18)
  cases e
  have F0 := fun_mk (st := s_cost_at) l0 c0 k0
  have F1 := fun_mk (st := s_costs_of) l1 c1 k1
  have F2 := fun_mk (st := s_divisor) l2 c2 k2
  have F3 := fun_mk (st := s_fraction) l3 c3 k3
  have F4 := fun_mk (st := s_is_less) l4 c4 k4
  have F5 := fun_mk (st := s_greater) l5 c5 k5
  have F6 := fun_mk (st := s_way_between) l6 c6 k6
  have F7 := fun_mk (st := s_share_of) l7 c7 k7
  have F8 := fun_mk (st := s_least_through) l8 c8 k8
  have F9 := fun_mk (st := s_leak) l9 c9 k9
  have F10 := fun_mk (st := s__law_cell_at) l10 c10 k10
  have F11 := fun_mk (st := s__law_draws) l11 c11 k11
  have F12 := fun_mk (st := s__law_best_good) l12 c12 k12
  have F13 := fun_mk (st := s__law_a_book) l13 c13 k13
  have F14 := fun_mk (st := s__law_cost) l14 c14 k14
  have F15 := fun_mk (st := s__law_a_costs) l15 c15 k15
  have F16 := fun_mk (st := s__law_less) l16 c16 k16
  have F17 := fun_mk (st := s__law_a_share) l17 c17 k17
  have F18 := fun_mk (st := s_law) l18 c18 k18
  have b0 := F0.binds (ps := ["prices", "amounts"]) fun _ _ _ _ _ _ us hl => match us, hl with | [_, _], _ => rfl
  have b1 := F1.binds (ps := ["book"]) fun _ _ _ _ _ _ us hl => match us, hl with | [_], _ => rfl
  have b2 := F2.binds (ps := ["one", "other"]) fun _ _ _ _ _ _ us hl => match us, hl with | [_, _], _ => rfl
  have b3 := F3.binds (ps := ["top", "bottom"]) fun _ _ _ _ _ _ us hl => match us, hl with | [_, _], _ => rfl
  have b4 := F4.binds (ps := ["one", "other"]) fun _ _ _ _ _ _ us hl => match us, hl with | [_, _], _ => rfl
  have b5 := F5.binds (ps := ["one", "other"]) fun _ _ _ _ _ _ us hl => match us, hl with | [_, _], _ => rfl
  have b6 := F6.binds (ps := ["ways", "one", "other"]) fun _ _ _ _ _ _ us hl => match us, hl with | [_, _, _], _ => rfl
  have b7 := F7.binds (ps := ["costs", "one", "other"]) fun _ _ _ _ _ _ us hl => match us, hl with | [_, _, _], _ => rfl
  have b8 := F8.binds (ps := ["shares"]) fun _ _ _ _ _ _ us hl => match us, hl with | [_], _ => rfl
  have b9 := F9.binds (ps := ["book"]) fun _ _ _ _ _ _ us hl => match us, hl with | [_], _ => rfl
  have b10 := F10.binds (ps := ["script", "k"]) fun _ _ _ _ _ _ us hl => match us, hl with | [_, _], _ => rfl
  have b11 := F11.binds (ps := ["cell", "many", "base"]) fun _ _ _ _ _ _ us hl => match us, hl with | [_, _, _], _ => rfl
  have b12 := F12.binds (ps := ["prices", "weights", "amount"]) fun _ _ _ _ _ _ us hl => match us, hl with | [_, _, _], _ => rfl
  have b13 := F13.binds (ps := ["script", "at", "most"]) fun _ _ _ _ _ _ us hl => match us, hl with | [_, _, _], _ => rfl
  have b14 := F14.binds (ps := ["prices", "amounts"]) fun _ _ _ _ _ _ us hl => match us, hl with | [_, _], _ => rfl
  have b15 := F15.binds (ps := ["book"]) fun _ _ _ _ _ _ us hl => match us, hl with | [_], _ => rfl
  have b16 := F16.binds (ps := ["one", "other"]) fun _ _ _ _ _ _ us hl => match us, hl with | [_, _], _ => rfl
  have b17 := F17.binds (ps := ["costs", "numbers"]) fun _ _ _ _ _ _ us hl => match us, hl with | [_, _], _ => rfl
  have b18 := F18.binds (ps := ["script"]) fun _ _ _ _ _ _ us hl => match us, hl with | [_], _ => rfl
  let X : Tx K mg := {
    a_cost_at := _,
    d_cost_at := _,
    F_cost_at := F0,
    b_cost_at := b0,
    g_cost_at := PySem.W.mg_of Y G a0,
    a_costs_of := _,
    d_costs_of := _,
    F_costs_of := F1,
    b_costs_of := b1,
    g_costs_of := PySem.W.mg_of Y G a1,
    a_divisor := _,
    d_divisor := _,
    F_divisor := F2,
    b_divisor := b2,
    g_divisor := PySem.W.mg_of Y G a2,
    a_fraction := _,
    d_fraction := _,
    F_fraction := F3,
    b_fraction := b3,
    g_fraction := PySem.W.mg_of Y G a3,
    a_is_less := _,
    d_is_less := _,
    F_is_less := F4,
    b_is_less := b4,
    g_is_less := PySem.W.mg_of Y G a4,
    a_greater := _,
    d_greater := _,
    F_greater := F5,
    b_greater := b5,
    g_greater := PySem.W.mg_of Y G a5,
    a_way_between := _,
    d_way_between := _,
    F_way_between := F6,
    b_way_between := b6,
    g_way_between := PySem.W.mg_of Y G a6,
    a_share_of := _,
    d_share_of := _,
    F_share_of := F7,
    b_share_of := b7,
    g_share_of := PySem.W.mg_of Y G a7,
    a_least_through := _,
    d_least_through := _,
    F_least_through := F8,
    b_least_through := b8,
    g_least_through := PySem.W.mg_of Y G a8,
    a_leak := _,
    d_leak := _,
    F_leak := F9,
    b_leak := b9,
    g_leak := PySem.W.mg_of Y G a9,
    a__law_cell_at := _,
    d__law_cell_at := _,
    F__law_cell_at := F10,
    b__law_cell_at := b10,
    g__law_cell_at := PySem.W.mg_of Y G a10,
    a__law_draws := _,
    d__law_draws := _,
    F__law_draws := F11,
    b__law_draws := b11,
    g__law_draws := PySem.W.mg_of Y G a11,
    a__law_best_good := _,
    d__law_best_good := _,
    F__law_best_good := F12,
    b__law_best_good := b12,
    g__law_best_good := PySem.W.mg_of Y G a12,
    a__law_a_book := _,
    d__law_a_book := _,
    F__law_a_book := F13,
    b__law_a_book := b13,
    g__law_a_book := PySem.W.mg_of Y G a13,
    a__law_cost := _,
    d__law_cost := _,
    F__law_cost := F14,
    b__law_cost := b14,
    g__law_cost := PySem.W.mg_of Y G a14,
    a__law_a_costs := _,
    d__law_a_costs := _,
    F__law_a_costs := F15,
    b__law_a_costs := b15,
    g__law_a_costs := PySem.W.mg_of Y G a15,
    a__law_less := _,
    d__law_less := _,
    F__law_less := F16,
    b__law_less := b16,
    g__law_less := PySem.W.mg_of Y G a16,
    a__law_a_share := _,
    d__law_a_share := _,
    F__law_a_share := F17,
    b__law_a_share := b17,
    g__law_a_share := PySem.W.mg_of Y G a17,
    a_law := _,
    d_law := _,
    F_law := F18,
    b_law := b18,
    g_law := PySem.W.mg_of Y G a18,
    z_abs := PySem.W.mg_none_of Y G z0,
    z_int := PySem.W.mg_none_of Y G z1,
    z_len := PySem.W.mg_none_of Y G z2,
    z_list := PySem.W.mg_none_of Y G z3,
    z_max := PySem.W.mg_none_of Y G z4,
    z_min := PySem.W.mg_none_of Y G z5,
    z_range := PySem.W.mg_none_of Y G z6,
    z_sum := PySem.W.mg_none_of Y G z7,
    z_tuple := PySem.W.mg_none_of Y G z8,
    z_zip := PySem.W.mg_none_of Y G z9 }
  exact ⟨PySem.W.fnOf "law" "law" (defArgs s_law) (defBody s_law) (defScope s_law) .none kV18 dc18 pm18 an18 cd18 ct18, fun s v => .of_eq rfl, fun base _ _ => law_ok (ok_law X) hl⟩
end W
open PySem PySem.W PyProof.Rows
set_option maxHeartbeats 0 in
theorem PySem.Challenge.cw_onewish_k36_whole_leaks_told_otherwise_holds : PySem.Challenge.rw_onewish_k36_whole_leaks_told_otherwise.Holds := by
  w_on; o_law; k_head; (case hw => w_witness2)
  k_fill
  refine L2.walk_of (l := PySem.Challenge.rw_onewish_k36_whole_leaks_told_otherwise) (n := 63) (k := 5) (x := "script") (CX := fun _ => L2.CX0) (sp := fun w => M.spLaw 63 _) rfl (by decide) rfl ⟨rfl, by decide, by decide⟩ (fun w h Y => PySem.W.kIn_of Y) ?F (fun _ _ a ns hl _ hS => ⟨a, ns, rfl, hS, hl, fun _ => rfl⟩) (fun _ _ _ _ _ h => h)
  case F =>
    intro w mg fa h KX G hmg
    refine' W.all_mk KX G hmg ?a0 ?l0 ?c0 ?k0 ?a1 ?l1 ?c1 ?k1 ?a2 ?l2 ?c2 ?k2 ?a3 ?l3 ?c3 ?k3 ?a4 ?l4 ?c4 ?k4 ?a5 ?l5 ?c5 ?k5 ?a6 ?l6 ?c6 ?k6 ?a7 ?l7 ?c7 ?k7 ?a8 ?l8 ?c8 ?k8 ?a9 ?l9 ?c9 ?k9 ?a10 ?l10 ?c10 ?k10 ?a11 ?l11 ?c11 ?k11 ?a12 ?l12 ?c12 ?k12 ?a13 ?l13 ?c13 ?k13 ?a14 ?l14 ?c14 ?k14 ?a15 ?l15 ?c15 ?k15 ?a16 ?l16 ?c16 ?k16 ?a17 ?l17 ?c17 ?k17 ?a18 ?l18 ?c18 ?k18 ?z0 ?z1 ?z2 ?z3 ?z4 ?z5 ?z6 ?z7 ?z8 ?z9 W.law_true
    (case a0 => k_is)
    (case l0 => k_is)
    (case c0 => k_is)
    (case k0 => k_is)
    (case a1 => k_is)
    (case l1 => k_is)
    (case c1 => k_is)
    (case k1 => k_is)
    (case a2 => k_is)
    (case l2 => k_is)
    (case c2 => k_is)
    (case k2 => k_is)
    (case a3 => k_is)
    (case l3 => k_is)
    (case c3 => k_is)
    (case k3 => k_is)
    (case a4 => k_is)
    (case l4 => k_is)
    (case c4 => k_is)
    (case k4 => k_is)
    (case a5 => k_is)
    (case l5 => k_is)
    (case c5 => k_is)
    (case k5 => k_is)
    (case a6 => k_is)
    (case l6 => k_is)
    (case c6 => k_is)
    (case k6 => k_is)
    (case a7 => k_is)
    (case l7 => k_is)
    (case c7 => k_is)
    (case k7 => k_is)
    (case a8 => k_is)
    (case l8 => k_is)
    (case c8 => k_is)
    (case k8 => k_is)
    (case a9 => k_is)
    (case l9 => k_is)
    (case c9 => k_is)
    (case k9 => k_is)
    (case a10 => k_is)
    (case l10 => k_is)
    (case c10 => k_is)
    (case k10 => k_is)
    (case a11 => k_is)
    (case l11 => k_is)
    (case c11 => k_is)
    (case k11 => k_is)
    (case a12 => k_is)
    (case l12 => k_is)
    (case c12 => k_is)
    (case k12 => k_is)
    (case a13 => k_is)
    (case l13 => k_is)
    (case c13 => k_is)
    (case k13 => k_is)
    (case a14 => k_is)
    (case l14 => k_is)
    (case c14 => k_is)
    (case k14 => k_is)
    (case a15 => k_is)
    (case l15 => k_is)
    (case c15 => k_is)
    (case k15 => k_is)
    (case a16 => k_is)
    (case l16 => k_is)
    (case c16 => k_is)
    (case k16 => k_is)
    (case a17 => k_is)
    (case l17 => k_is)
    (case c17 => k_is)
    (case k17 => k_is)
    (case a18 => k_is)
    (case l18 => k_is)
    (case c18 => k_is)
    (case k18 => k_is)
    (case z0 => k_is)
    (case z1 => k_is)
    (case z2 => k_is)
    (case z3 => k_is)
    (case z4 => k_is)
    (case z5 => k_is)
    (case z6 => k_is)
    (case z7 => k_is)
    (case z8 => k_is)
    (case z9 => k_is)
