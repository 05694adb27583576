import PyProof.Rows.All
import HandS.ForMost
import HandS.Wide
import HandS.Conv
import HandS.Zip
import HandS.Deep
import HandS.Style
import HandS.TupAny
import HandS.TupMul
import HandS.Flow
import HandS.More
import HandS.SortInts
import HandS.IsInst
import KE.DataMinMax
import KE.KSortedM
import HandS.SetFor
import KE.LtData
import KE.GoesEnum
import HandS.WordsExc
import HandS.ExcCtx
import HandS.HotCalls
import KE.KExcIs
import HandS.Strs
import PySem.Challenge.RW_onewish_k25_papers_of_logs
set_option Elab.async false
set_option linter.all false
set_option maxRecDepth 100000
namespace M
open PySem PySem.Spec PyProof.Rows L2

abbrev D := PyData
def keyD : Key → D
  | .inl i => .int i
  | .inr x => .str x

mutual
inductive Rp (K : PySem.W.Frag) (G : Hp) : V → D → Prop
  | non : Rp K G .non .none
  | bl (b : Bool) : Rp K G (.bl b) (.bool b)
  | int (i : Int) : Rp K G (.int i) (.int i)
  | str (x : Str) : Rp K G (.str x) (.str x)
  | lst {a : Addr} {xs : List V} {ds : List D} : G a = some (.lst xs) → Rps K G xs ds → Rp K G (.ref a) (.list ds)
  | tup {a : Addr} {xs : List V} {ds : List D} : SqT K G a xs → Rps K G xs ds → Rp K G (.ref a) (.tuple ds)
  | dct {a : Addr} {kvs : List (Key × V)} {ds : List (D × D)} : G a = some (.dK kvs) → Rpk K G kvs ds → Rp K G (.ref a) (.dict ds)
inductive Rps (K : PySem.W.Frag) (G : Hp) : List V → List D → Prop
  | nil : Rps K G [] []
  | cons {v : V} {vs : List V} {d : D} {ds : List D} : Rp K G v d → Rps K G vs ds → Rps K G (v :: vs) (d :: ds)
inductive Rpk (K : PySem.W.Frag) (G : Hp) : List (Key × V) → List (D × D) → Prop
  | nil : Rpk K G [] []
  | cons {k : Key} {v : V} {r : List (Key × V)} {d : D} {ds : List (D × D)} : Rp K G v d → Rpk K G r ds → Rpk K G ((k, v) :: r) ((keyD k, d) :: ds)
end
theorem Same.seqT {K : PySem.W.Frag} {H H' : Hp} {a : Addr} {xs : List V} (e : Same H H') (h : SqT K H a xs) : SqT K H' a xs := by
  rcases h with (h | ⟨o, h⟩) | h
  · exact .inl (.inl (e _ _ h))
  · exact .inl (.inr ⟨o, e _ _ h⟩)
  · exact .inr h

mutual
theorem Rp.mono {K : PySem.W.Frag} {G G' : Hp} (s : Same G G') : ∀ {v : V} {d : D}, Rp K G v d → Rp K G' v d
  | _, _, .non => .non
  | _, _, .bl b => .bl b
  | _, _, .int i => .int i
  | _, _, .str x => .str x
  | _, _, .lst h r => .lst (s _ _ h) (Rps.mono s r)
  | _, _, .tup h r => .tup (Same.seqT s h) (Rps.mono s r)
  | _, _, .dct h r => .dct (s _ _ h) (Rpk.mono s r)
theorem Rps.mono {K : PySem.W.Frag} {G G' : Hp} (s : Same G G') : ∀ {v : List V} {d : List D}, Rps K G v d → Rps K G' v d
  | _, _, .nil => .nil
  | _, _, .cons h r => .cons (Rp.mono s h) (Rps.mono s r)
theorem Rpk.mono {K : PySem.W.Frag} {G G' : Hp} (s : Same G G') : ∀ {v : List (Key × V)} {d : List (D × D)}, Rpk K G v d → Rpk K G' v d
  | _, _, .nil => .nil
  | _, _, .cons h r => .cons (Rp.mono s h) (Rpk.mono s r)
end
section
variable {K : PySem.W.Frag} {G : Hp}
theorem Rps.length : ∀ {vs : List V} {ds : List D}, Rps K G vs ds → vs.length = ds.length
  | _, _, .nil => rfl
  | _, _, .cons _ r => by simp [Rps.length r]
theorem Rps.get : ∀ {vs : List V} {ds : List D} {i : Nat} {d : D}, Rps K G vs ds → ds[i]? = some d → ∃ v, vs[i]? = some v ∧ Rp K G v d
  | _, _, _, _, .nil, e => by simp at e
  | _, _, 0, _, .cons h _, e => by simp at e; subst e; exact ⟨_, rfl, h⟩
  | _, _, i + 1, d, .cons _ r, e => by
    obtain ⟨v, h1, h2⟩ := Rps.get (i := i) (d := d) r (by simpa using e)
    exact ⟨v, by simpa using h1, h2⟩
theorem Rps.append : ∀ {xs ys : List V} {us ws : List D}, Rps K G xs us → Rps K G ys ws → Rps K G (xs ++ ys) (us ++ ws)
  | _, _, _, _, .nil, s => s
  | _, _, _, _, .cons r t, s => .cons r (Rps.append t s)
theorem Rps.take : ∀ {xs : List V} {us : List D} (n : Nat), Rps K G xs us → Rps K G (xs.take n) (us.take n)
  | _, _, 0, _ => .nil
  | _, _, _ + 1, .nil => .nil
  | _, _, n + 1, .cons r t => .cons r (Rps.take n t)
theorem Rps.drop : ∀ {xs : List V} {us : List D} (n : Nat), Rps K G xs us → Rps K G (xs.drop n) (us.drop n)
  | _, _, 0, r => r
  | _, _, _ + 1, .nil => .nil
  | _, _, n + 1, .cons _ t => Rps.drop n t
theorem Rps.reverse : ∀ {xs : List V} {us : List D}, Rps K G xs us → Rps K G xs.reverse us.reverse
  | _, _, .nil => .nil
  | _, _, .cons r t => by simp only [List.reverse_cons]; exact (Rps.reverse t).append (.cons r .nil)
theorem Rps.rep {xs : List V} {us : List D} (r : Rps K G xs us) : ∀ n : Nat, Rps K G (List.replicate n xs).flatten (List.replicate n us).flatten
  | 0 => .nil
  | n + 1 => by
    rw [List.replicate_succ, List.replicate_succ, List.flatten_cons, List.flatten_cons]
    exact r.append (r.rep n)
theorem Rps.one {v : V} {d : D} (h : Rp K G v d) : Rps K G [v] [d] := .cons h .nil
theorem Rps.set {v : V} {d : D} (h : Rp K G v d) : ∀ {xs : List V} {us : List D} (i : Nat), Rps K G xs us → Rps K G (xs.set i v) (us.set i d)
  | _, _, _, .nil => .nil
  | _, _, 0, .cons _ t => .cons h t
  | _, _, i + 1, .cons r t => .cons r (Rps.set h i t)
theorem Rps.ints : ∀ {vs : List V} {ns : List Int}, Rps K G vs (ns.map PyData.int) → vs = ns.map V.int
  | [], [], _ => rfl
  | _, _ :: _, .cons (.int i) r => by simp only [List.map_cons]; rw [Rps.ints r]
  | _ :: _, [], h => nomatch h
theorem Rps.of_ints : ∀ (ns : List Int), Rps K G (ns.map V.int) (ns.map PyData.int)
  | [] => .nil
  | _ :: r => .cons (.int _) (Rps.of_ints r)
theorem Rps.bls : ∀ {vs : List V} {ns : List Bool}, Rps K G vs (ns.map PyData.bool) → vs = ns.map V.bl
  | [], [], _ => rfl
  | _, _ :: _, .cons (.bl i) r => by simp only [List.map_cons]; rw [Rps.bls r]
  | _ :: _, [], h => nomatch h
end

inductive T where
  | p (d : D)
  | sc (ns : List Int)
  | ml (ts : List T)
  | tp (ts : List T)
  | md (kvs : List (Key × D))
  | mk (a : Addr) (od : Obj) (kvs : List (Key × V)) (ds : List (Key × D))
  | ob (C : Addr) (fs : List (Str × T))
  | rf (a : Addr) (t : T)
  | io (t : T) (us : List T)
/-- without the address that is told of it -/
def T.strip : T → T
  | .rf _ t => t.strip
  | t => t
/-- u in t's place, told of the same address -/
def T.wrap : T → T → T
  | .rf a t, u => .rf a (t.wrap u)
  | _, u => u
@[simp] theorem strip_p {d : D} : (T.p d).strip = .p d := rfl
@[simp] theorem strip_sc {ns : List Int} : (T.sc ns).strip = .sc ns := rfl
@[simp] theorem strip_ml {ts : List T} : (T.ml ts).strip = .ml ts := rfl
@[simp] theorem strip_tp {ts : List T} : (T.tp ts).strip = .tp ts := rfl
@[simp] theorem strip_md {ds : List (Key × D)} : (T.md ds).strip = .md ds := rfl
@[simp] theorem strip_mk {a : Addr} {od : Obj} {kvs : List (Key × V)} {ds : List (Key × D)} : (T.mk a od kvs ds).strip = .mk a od kvs ds := rfl
@[simp] theorem strip_ob {C : Addr} {fs : List (Str × T)} : (T.ob C fs).strip = .ob C fs := rfl
@[simp] theorem strip_io {t : T} {us : List T} : (T.io t us).strip = .io t us := rfl
@[simp] theorem strip_rf {a : Addr} {t : T} : (T.rf a t).strip = t.strip := rfl
@[simp] theorem wrap_p {d : D} {u : T} : (T.p d).wrap u = u := rfl
@[simp] theorem wrap_ml {ts : List T} {u : T} : (T.ml ts).wrap u = u := rfl
@[simp] theorem wrap_tp {ts : List T} {u : T} : (T.tp ts).wrap u = u := rfl
@[simp] theorem wrap_md {ds : List (Key × D)} {u : T} : (T.md ds).wrap u = u := rfl
@[simp] theorem wrap_mk {a : Addr} {od : Obj} {kvs : List (Key × V)} {ds : List (Key × D)} {u : T} : (T.mk a od kvs ds).wrap u = u := rfl
@[simp] theorem wrap_ob {C : Addr} {fs : List (Str × T)} {u : T} : (T.ob C fs).wrap u = u := rfl
@[simp] theorem wrap_io {t : T} {us : List T} {u : T} : (T.io t us).wrap u = u := rfl
@[simp] theorem wrap_rf {a : Addr} {t u : T} : (T.rf a t).wrap u = .rf a (t.wrap u) := rfl

inductive KR (K : PySem.W.Frag) (G : Hp) : List (Key × V) → List (Key × D) → Prop
  | nil : KR K G [] []
  | cons {k : Key} {v : V} {r : List (Key × V)} {d : D} {ds : List (Key × D)} : Rp K G v d → KR K G r ds → KR K G ((k, v) :: r) ((k, d) :: ds)
theorem KR.mono {K : PySem.W.Frag} {G G' : Hp} (s : Same G G') : ∀ {v : List (Key × V)} {d : List (Key × D)}, KR K G v d → KR K G' v d
  | _, _, .nil => .nil
  | _, _, .cons h r => .cons (Rp.mono s h) (KR.mono s r)
theorem KR.rpk {K : PySem.W.Frag} {G : Hp} : ∀ {v : List (Key × V)} {d : List (Key × D)}, KR K G v d → Rpk K G v (d.map fun p => (keyD p.1, p.2))
  | _, _, .nil => .nil
  | _, _, .cons h r => .cons h (KR.rpk r)

mutual
inductive TR (K : PySem.W.Frag) (G H : Hp) : T → V → List Addr → Prop
  | p {d : D} {v : V} : Rp K G v d → TR K G H (.p d) v []
  | sc {ns : List Int} {a : Addr} : SqL K G a (ns.map V.int) → TR K G H (.sc ns) (.ref a) []
  | ml {ts : List T} {a : Addr} {vs : List V} {F : List Addr} : H a = some (.lst vs) → TRs K G H ts vs F → TR K G H (.ml ts) (.ref a) (a :: F)
  | tp {ts : List T} {a : Addr} {vs : List V} {F : List Addr} : H a = some (.tup vs) → TRs K G H ts vs F → TR K G H (.tp ts) (.ref a) (a :: F)
  | md {ds : List (Key × D)} {a : Addr} {kvs : List (Key × V)} : H a = some (.dK kvs) → KR K G kvs ds → TR K G H (.md ds) (.ref a) [a]
  | mk {ds : List (Key × D)} {a : Addr} {od : Obj} {kvs : List (Key × V)} : H a = some (.frz od (.dK kvs)) → KR K G kvs ds → TR K G H (.mk a od kvs ds) (.ref a) [a]
  | ob {C : Addr} {fs : List (Str × T)} {a dx : Addr} {vfs : List (Str × V)} {F : List Addr} : H a = some (.ins C dx vfs) → H dx = some (.own a) → TRf K G H fs vfs F → TR K G H (.ob C fs) (.ref a) (a :: dx :: F)
  | rf {a : Addr} {t : T} {F : List Addr} : TR K G H t (.ref a) F → TR K G H (.rf a t) (.ref a) F
  | io {t : T} {us : List T} {v : V} {vs : List V} {F F' : List Addr} : TR K G H t v F → TRs K G H us vs F' → TR K G H (.io t us) v (F ++ F')
inductive TRs (K : PySem.W.Frag) (G H : Hp) : List T → List V → List Addr → Prop
  | nil : TRs K G H [] [] []
  | cons {t : T} {v : V} {F F' : List Addr} {ts : List T} {vs : List V} : TR K G H t v F → TRs K G H ts vs F' → TRs K G H (t :: ts) (v :: vs) (F ++ F')
inductive TRf (K : PySem.W.Frag) (G H : Hp) : List (Str × T) → List (Str × V) → List Addr → Prop
  | nil : TRf K G H [] [] []
  | cons {x : Str} {t : T} {v : V} {F F' : List Addr} {ts : List (Str × T)} {vs : List (Str × V)} : TR K G H t v F → TRf K G H ts vs F' → TRf K G H ((x, t) :: ts) ((x, v) :: vs) (F ++ F')
end
/-- the objects at F stand -/
def Keep (F : List Addr) (H H' : Hp) : Prop := ∀ a ∈ F, ∀ o, H a = some o → H' a = some o
theorem Keep.of {F : List Addr} {H H' : Hp} (s : Same H H') : Keep F H H' := fun a _ o e => s a o e
theorem Keep.sub {F F' : List Addr} {H H' : Hp} (k : Keep F H H') (h : ∀ a ∈ F', a ∈ F) : Keep F' H H' := fun a ha o e => k a (h a ha) o e

mutual
theorem TR.keep {K : PySem.W.Frag} {G G' H H' : Hp} (s : Same G G') : ∀ {t : T} {v : V} {F : List Addr}, TR K G H t v F → Keep F H H' → TR K G' H' t v F
  | _, _, _, .p h, _ => .p (h.mono s)
  | _, _, _, .sc h, _ => .sc (s.seq h)
  | _, _, _, .ml h r, k => .ml (k _ List.mem_cons_self _ h) (TRs.keep s r (k.sub fun _ q => List.mem_cons_of_mem _ q))
  | _, _, _, .tp h r, k => .tp (k _ List.mem_cons_self _ h) (TRs.keep s r (k.sub fun _ q => List.mem_cons_of_mem _ q))
  | _, _, _, .md h r, k => .md (k _ List.mem_cons_self _ h) (r.mono s)
  | _, _, _, .mk h r, k => .mk (k _ List.mem_cons_self _ h) (r.mono s)
  | _, _, _, .ob h h2 r, k => .ob (k _ List.mem_cons_self _ h) (k _ (List.mem_cons_of_mem _ List.mem_cons_self) _ h2) (TRf.keep s r (k.sub fun _ q => List.mem_cons_of_mem _ (List.mem_cons_of_mem _ q)))
  | _, _, _, .rf r, k => .rf (TR.keep s r k)
  | _, _, _, .io h r, k => .io (TR.keep s h (k.sub fun _ q => List.mem_append_left _ q)) (TRs.keep s r (k.sub fun _ q => List.mem_append_right _ q))
theorem TRs.keep {K : PySem.W.Frag} {G G' H H' : Hp} (s : Same G G') : ∀ {t : List T} {v : List V} {F : List Addr}, TRs K G H t v F → Keep F H H' → TRs K G' H' t v F
  | _, _, _, .nil, _ => .nil
  | _, _, _, .cons h r, k => .cons (TR.keep s h (k.sub fun _ q => List.mem_append_left _ q)) (TRs.keep s r (k.sub fun _ q => List.mem_append_right _ q))
theorem TRf.keep {K : PySem.W.Frag} {G G' H H' : Hp} (s : Same G G') : ∀ {t : List (Str × T)} {v : List (Str × V)} {F : List Addr}, TRf K G H t v F → Keep F H H' → TRf K G' H' t v F
  | _, _, _, .nil, _ => .nil
  | _, _, _, .cons h r, k => .cons (TR.keep s h (k.sub fun _ q => List.mem_append_left _ q)) (TRf.keep s r (k.sub fun _ q => List.mem_append_right _ q))
end
mutual
/-- a tree as data -/
def T.snap : T → Option D
  | .p d => some d
  | .sc _ => none
  | .ml ts => (snaps ts).map PyData.list
  | .tp ts => (snaps ts).map PyData.tuple
  | .md kvs => some (.dict (kvs.map fun p => (keyD p.1, p.2)))
  | .mk _ _ _ _ => none
  | .ob _ _ => none
  | .rf _ t => T.snap t
  | .io _ _ => none
def snaps : List T → Option (List D)
  | [] => some []
  | t :: r => (T.snap t).bind fun d => (snaps r).map fun ds => d :: ds
end
theorem snaps_p : ∀ ds : List D, snaps (ds.map T.p) = some ds
  | [] => by simp [snaps]
  | d :: r => by simp [snaps, T.snap, snaps_p r]

mutual
/-- a tree read as data over a heap that has what it leans on -/
theorem TR.data {K : PySem.W.Frag} {G H G' : Hp} (s : Same G G') : ∀ {t : T} {v : V} {F : List Addr} {d : D}, TR K G H t v F → Keep F H G' → t.snap = some d → Rp K G' v d
  | _, _, _, _, .p h, _, e => by
    simp only [T.snap, Option.some.injEq] at e; subst e; exact h.mono s
  | _, _, _, _, .sc _, _, e => by simp [T.snap] at e
  | _, _, _, _, .ml (ts := ts) h r, k, e => by
    simp only [T.snap, Option.map_eq_some_iff] at e
    obtain ⟨ds, e1, rfl⟩ := e
    exact .lst (k _ List.mem_cons_self _ h) (TRs.data s r (k.sub fun _ q => List.mem_cons_of_mem _ q) e1)
  | _, _, _, _, .tp (ts := ts) h r, k, e => by
    simp only [T.snap, Option.map_eq_some_iff] at e
    obtain ⟨ds, e1, rfl⟩ := e
    exact .tup (.inl (.inl (k _ List.mem_cons_self _ h))) (TRs.data s r (k.sub fun _ q => List.mem_cons_of_mem _ q) e1)
  | _, _, _, _, .md h r, k, e => by
    simp only [T.snap, Option.some.injEq] at e; subst e
    exact .dct (k _ List.mem_cons_self _ h) (r.mono s).rpk
  | _, _, _, _, .mk _ _, _, e => by simp [T.snap] at e
  | _, _, _, _, .ob _ _ _, _, e => by simp [T.snap] at e
  | _, _, _, _, .rf r, k, e => TR.data s r k (by simpa [T.snap] using e)
  | _, _, _, _, .io _ _, _, e => by simp [T.snap] at e
theorem TRs.data {K : PySem.W.Frag} {G H G' : Hp} (s : Same G G') : ∀ {t : List T} {v : List V} {F : List Addr} {d : List D}, TRs K G H t v F → Keep F H G' → snaps t = some d → Rps K G' v d
  | _, _, _, _, .nil, _, e => by simp [snaps] at e; subst e; exact .nil
  | _, _, _, _, .cons h r, k, e => by
    simp only [snaps, Option.bind_eq_some_iff, Option.map_eq_some_iff] at e
    obtain ⟨d, e1, ds, e2, rfl⟩ := e
    exact .cons (TR.data s h (k.sub fun _ q => List.mem_append_left _ q) e1) (TRs.data s r (k.sub fun _ q => List.mem_append_right _ q) e2)
end
/-- .. as it stands now -/
theorem TR.live {K : PySem.W.Frag} {G H : Hp} {t : T} {v : V} {F : List Addr} {d : D} (r : TR K G H t v F) (s : Same G H) (e : t.snap = some d) : Rp K H v d := r.data s (Keep.of (Same.refl H)) e

theorem TR.strip {K : PySem.W.Frag} {G H : Hp} : ∀ {t : T} {v : V} {F : List Addr}, TR K G H t v F → TR K G H t.strip v F
  | _, _, _, .p h => .p h
  | _, _, _, .sc h => .sc h
  | _, _, _, .ml h r => .ml h r
  | _, _, _, .tp h r => .tp h r
  | _, _, _, .md h r => .md h r
  | _, _, _, .mk h r => .mk h r
  | _, _, _, .ob h h2 r => .ob h h2 r
  | _, _, _, .rf r => r.strip
  | _, _, _, .io h r => .io h r
theorem TR.wrap {K : PySem.W.Frag} {G H G' H' : Hp} {u : T} {F' : List Addr} : ∀ {t : T} {v : V} {F : List Addr}, TR K G H t v F → TR K G' H' u v F' → TR K G' H' (t.wrap u) v F'
  | _, _, _, .p h, q => q
  | _, _, _, .sc h, q => q
  | _, _, _, .ml h r, q => q
  | _, _, _, .tp h r, q => q
  | _, _, _, .md h r, q => q
  | _, _, _, .mk h r, q => q
  | _, _, _, .ob h h2 r, q => q
  | _, _, _, .rf r, q => .rf (r.wrap q)
  | _, _, _, .io h r, q => q
theorem TR.pure {K : PySem.W.Frag} {G H : Hp} {d : D} {v : V} {F : List Addr} (r : TR K G H (.p d) v F) : Rp K G v d := by
  cases r with
  | p h => exact h
theorem TRs.pures {K : PySem.W.Frag} {G H : Hp} : ∀ {ds : List D} {vs : List V} {F : List Addr}, TRs K G H (ds.map T.p) vs F → Rps K G vs ds ∧ F = []
  | [], _, _, .nil => ⟨.nil, rfl⟩
  | _ :: r, _, _, .cons h t => by
    obtain ⟨h1, h2⟩ := TRs.pures (ds := r) t
    cases h with
    | p h => exact ⟨.cons h h1, by rw [h2]; rfl⟩
theorem TRs.of_pures {K : PySem.W.Frag} {G H : Hp} : ∀ {ds : List D} {vs : List V}, Rps K G vs ds → TRs K G H (ds.map T.p) vs []
  | _, _, .nil => .nil
  | _, _, .cons h r => by
    have q := TRs.cons (TR.p (H := H) h) (TRs.of_pures (H := H) r)
    exact q

abbrev En := List (Option T)
inductive ES (K : PySem.W.Frag) (G H : Hp) : En → L2.St → List Addr → Prop
  | nil : ES K G H [] [] []
  | no {env : En} {σ : L2.St} {F : List Addr} {o : Option V} : ES K G H env σ F → ES K G H (none :: env) (o :: σ) F
  | so {env : En} {σ : L2.St} {F F' : List Addr} {t : T} {v : V} : TR K G H t v F → ES K G H env σ F' → ES K G H (some t :: env) (some v :: σ) (F ++ F')

section
variable {K : PySem.W.Frag} {G G' H H' : Hp}
theorem ES.keep (s : Same G G') : ∀ {env : En} {σ : L2.St} {F : List Addr}, ES K G H env σ F → Keep F H H' → ES K G' H' env σ F
  | _, _, _, .nil, _ => .nil
  | _, _, _, .no r, k => .no (ES.keep s r k)
  | _, _, _, .so h r, k => .so (h.keep s (k.sub fun _ q => List.mem_append_left _ q)) (ES.keep s r (k.sub fun _ q => List.mem_append_right _ q))
/-- slot i and the rest -/
theorem ES.split : ∀ {env : En} {σ : L2.St} {F : List Addr} {i : Nat} {t : T}, ES K G H env σ F → env[i]? = some (some t) →
    ∃ v F1 Fa Fb, σ[i]? = some (some v) ∧ TR K G H t v F1 ∧ F = Fa ++ (F1 ++ Fb) ∧
      (∀ G' H' t' v' F1', Same G G' → Keep (Fa ++ Fb) H H' → TR K G' H' t' v' F1' → ES K G' H' (env.set i (some t')) (σ.set i (some v')) (Fa ++ (F1' ++ Fb))) ∧
      (∀ G' H' t' F1', Same G G' → Keep (Fa ++ Fb) H H' → TR K G' H' t' v F1' → ES K G' H' (env.set i (some t')) σ (Fa ++ (F1' ++ Fb))) ∧
      (∀ G' H', Same G G' → Keep (Fa ++ Fb) H H' → ES K G' H' (env.set i none) σ (Fa ++ Fb))
  | _, _, _, 0, t, .so (F := F1) (F' := F2) h r, e => by
    simp only [List.getElem?_cons_zero, Option.some.injEq] at e
    subst e
    refine ⟨_, F1, [], F2, rfl, h, rfl, fun G' H' t' v' F1' s k q => ?_, fun G' H' t' F1' s k q => ?_, fun G' H' s k => ?_⟩
    · rw [List.nil_append]; exact .so q (r.keep s k)
    · rw [List.nil_append]; exact .so q (r.keep s k)
    · exact .no (r.keep s k)
  | _, _, _, 0, t, .no r, e => by simp at e
  | _, _, _, i + 1, t, .no r, e => by
    obtain ⟨v, F1, Fa, Fb, h1, h2, h3, h4, h5, h6⟩ := ES.split (i := i) (t := t) r (by simpa using e)
    exact ⟨v, F1, Fa, Fb, by simpa using h1, h2, h3, fun G' H' t' v' F1' s k q => .no (h4 G' H' t' v' F1' s k q), fun G' H' t' F1' s k q => .no (h5 G' H' t' F1' s k q), fun G' H' s k => .no (h6 G' H' s k)⟩
  | _, _, _, i + 1, t, .so (F := F0) h r, e => by
    obtain ⟨v, F1, Fa, Fb, h1, h2, h3, h4, h5, h6⟩ := ES.split (i := i) (t := t) r (by simpa using e)
    have kA : ∀ {H' : Hp}, Keep (F0 ++ Fa ++ Fb) H H' → Keep F0 H H' ∧ Keep (Fa ++ Fb) H H' := fun k =>
      ⟨k.sub fun _ q => List.mem_append_left _ (List.mem_append_left _ q), k.sub fun _ q => by rw [List.append_assoc]; exact List.mem_append_right _ q⟩
    refine ⟨v, F1, F0 ++ Fa, Fb, by simpa using h1, h2, by rw [h3, List.append_assoc], fun G' H' t' v' F1' s k q => ?_, fun G' H' t' F1' s k q => ?_, fun G' H' s k => ?_⟩
    · rw [List.append_assoc]
      exact .so (h.keep s (kA k).1) (h4 G' H' t' v' F1' s (kA k).2 q)
    · rw [List.append_assoc]
      exact .so (h.keep s (kA k).1) (h5 G' H' t' F1' s (kA k).2 q)
    · rw [List.append_assoc]
      exact .so (h.keep s (kA k).1) (h6 G' H' s (kA k).2)
/-- a slot is given a new tree: the old one is forgotten -/
theorem ES.put {t : T} {v : V} {F1 : List Addr} (q : TR K G H t v F1) : ∀ {env : En} {σ : L2.St} {F : List Addr} (i : Nat), ES K G H env σ F →
    ∃ F', ES K G H (env.set i (some t)) (σ.set i (some v)) F' ∧ ((∀ a ∈ F', a ∈ F1 ∨ a ∈ F)) ∧ (F.Nodup → F1.Nodup → (∀ a ∈ F1, a ∉ F) → F'.Nodup)
  | _, _, _, _, .nil => ⟨[], .nil, fun _ z => .inr z, fun h _ _ => h⟩
  | _, _, _, 0, .no r => ⟨_, .so q r, fun a h => List.mem_append.mp h, fun h1 h2 h3 => List.nodup_append.mpr ⟨h2, h1, fun a ha b hb e => h3 a ha (e ▸ hb)⟩⟩
  | _, _, _, 0, .so h r => ⟨_, .so q r, fun a h => (List.mem_append.mp h).imp_right fun z => List.mem_append_right _ z, fun h1 h2 h3 =>
      List.nodup_append.mpr ⟨h2, (List.nodup_append.mp h1).2.1, fun a ha b hb e => h3 a ha (e ▸ List.mem_append_right _ hb)⟩⟩
  | _, _, _, i + 1, .no r => by
    obtain ⟨F', h1, h2, h3⟩ := ES.put q i r
    exact ⟨F', .no h1, h2, h3⟩
  | _, _, _, i + 1, .so (F := F0) (F' := Fr) h r => by
    obtain ⟨F', h1, h2, h3⟩ := ES.put q i r
    refine ⟨F0 ++ F', .so h h1, fun a ha => ?_, fun n1 n2 n3 => ?_⟩
    · rcases List.mem_append.mp ha with z | z
      · exact .inr (List.mem_append_left _ z)
      · exact (h2 a z).imp_right fun z => List.mem_append_right _ z
    · obtain ⟨m1, m2, m3⟩ := List.nodup_append.mp n1
      refine List.nodup_append.mpr ⟨m1, h3 m2 n2 fun a ha z => n3 a ha (List.mem_append_right _ z), fun a ha b hb e => ?_⟩
      subst e
      rcases h2 a hb with z | z
      · exact n3 a z (List.mem_append_left _ ha)
      · exact m3 a ha a z rfl
theorem ES.length : ∀ {env : En} {σ : L2.St} {F : List Addr}, ES K G H env σ F → env.length = σ.length
  | _, _, _, .nil => rfl
  | _, _, _, .no r => by simp [ES.length r]
  | _, _, _, .so _ r => by simp [ES.length r]
/-- a slot forgotten (its value or not) -/
theorem ES.drop : ∀ {env : En} {σ : L2.St} {F : List Addr} (i : Nat) (o : Option V), ES K G H env σ F → ∃ F', ES K G H (env.set i none) (σ.set i o) F' ∧ F'.Sublist F
  | _, _, _, _, _, .nil => ⟨[], .nil, .slnil⟩
  | _, _, _, 0, _, .no r => ⟨_, .no r, List.Sublist.refl _⟩
  | _, _, _, 0, _, .so h r => ⟨_, .no r, List.sublist_append_right _ _⟩
  | _, _, _, i + 1, o, .no r => by
    obtain ⟨F', h1, h2⟩ := ES.drop i o r
    exact ⟨F', .no h1, h2⟩
  | _, _, _, i + 1, o, .so h r => by
    obtain ⟨F', h1, h2⟩ := ES.drop i o r
    exact ⟨_, .so h h1, List.Sublist.append (List.Sublist.refl _) h2⟩
end

structure Ext (G H G' H' : Hp) : Prop where
  gg : Same G G'
  hh : Same H H'
  gh : Same G' H'
  fr : ∀ a, G' a ≠ none → G a ≠ none ∨ H a = none
theorem Ext.refl {G H : Hp} (s : Same G H) : Ext G H G H := ⟨Same.refl G, Same.refl H, s, fun _ h => .inl h⟩
theorem Ext.trans {G H G1 H1 G2 H2 : Hp} (a : Ext G H G1 H1) (b : Ext G1 H1 G2 H2) : Ext G H G2 H2 :=
  ⟨a.gg.trans b.gg, a.hh.trans b.hh, b.gh, fun x h => by
    rcases b.fr x h with z | z
    · exact a.fr x z
    · exact .inr (a.hh.free z)⟩
structure Rel (K : PySem.W.Frag) (G H : Hp) (env : En) (σ : L2.St) (F : List Addr) : Prop where
  es : ES K G H env σ F
  nd : F.Nodup
  fr : ∀ a ∈ F, G a = none ∧ H a ≠ none
  sm : Same G H
theorem Rel.ext {K : PySem.W.Frag} {G H G' H' : Hp} {env : En} {σ : L2.St} {F : List Addr} (r : Rel K G H env σ F) (e : Ext G H G' H') : Rel K G' H' env σ F :=
  ⟨r.es.keep e.gg (Keep.of e.hh), r.nd, fun a ha => by
    obtain ⟨h1, h2⟩ := r.fr a ha
    refine ⟨?_, ?_⟩
    · cases q : G' a with
      | none => rfl
      | some o =>
        rcases e.fr a (by rw [q]; exact Option.some_ne_none o) with z | z
        · exact absurd h1 z
        · exact absurd z h2
    · cases q : H a with
      | none => exact absurd q h2
      | some o => rw [e.hh a o q]; exact Option.some_ne_none o, e.gh⟩

/-- a new object that is frozen at once -/
theorem same_upd {H : Hp} {p : Addr} {o : HO} (h : H p = none) : Same H (upd H p o) := fun b x e => by
  rw [upd_ne (ne_of_none e h)]; exact e
theorem same_upd2 {G H : Hp} {p : Addr} {o : HO} (s : Same G H) : Same (upd G p o) (upd H p o) := fun b x e => by
  by_cases q : b = p
  · subst q; rw [upd_same] at e ⊢; exact e
  · rw [upd_ne q] at e ⊢; exact s b x e
theorem Ext.new {G H : Hp} {p : Addr} {o : HO} (s : Same G H) (h : H p = none) : Ext G H (upd G p o) (upd H p o) :=
  ⟨same_upd (s.free h), same_upd h, same_upd2 s, fun a q => by
    by_cases e : a = p
    · subst e; exact .inr h
    · rw [upd_ne e] at q; exact .inl q⟩
/-- a new object that is not frozen -/
theorem Ext.fresh {G H : Hp} {p : Addr} {o : HO} (s : Same G H) (h : H p = none) : Ext G H G (upd H p o) :=
  ⟨Same.refl G, same_upd h, s.trans (same_upd h), fun _ q => .inl q⟩
end M
namespace M
open PySem PySem.Spec PyProof.Rows L2

abbrev EM := En → Option T
def LIM : Nat := 1000000
theorem LIM_line : LIM ≤ sizeLine := by rw [sizeLine_eq]; decide
theorem PE_imp {X : Cx} {e : Expr} {t t' : TE} (h : PE X e t) (i : ∀ σ H Q, t' σ H Q → t σ H Q) : PE X e t' := ⟨fun pins s σ H Q I q => h.run pins s σ H Q I (i σ H Q q)⟩
theorem PT_imp {X : Cx} {e : Expr} {t t' : TT} (h : PT X e t) (i : ∀ σ H Q, t' σ H Q → t σ H Q) : PT X e t' := ⟨fun pins s σ H Q I q => h.run pins s σ H Q I (i σ H Q q)⟩
theorem PW_imp {X : Cx} {e : Expr} {t t' : TT} (h : PW X e t) (i : ∀ σ H Q, t' σ H Q → t σ H Q) : PW X e t' := ⟨fun wh pins s σ H Q I q => h.run wh pins s σ H Q I (i σ H Q q)⟩
theorem PA_imp {X : Cx} {e : List Expr} {t t' : TA} (h : PA X e t) (i : ∀ σ H Q, t' σ H Q → t σ H Q) : PA X e t' := ⟨fun pos pins s σ H Q I q => h.run pos pins s σ H Q I (i σ H Q q)⟩

def tM (K : PySem.W.Frag) (m : EM) : TE := fun σ H Q => ∃ G env F, Rel K G H env σ F ∧ ∃ t, m env = some t ∧ ∀ v H' G' F', Ext G H G' H' → TR K G' H' t v F' → Q v H'
abbrev PM (X : Cx) (e : Expr) (m : EM) : Prop := PE X e (tM X.K m)
def tTM (K : PySem.W.Frag) (m : En → Option Bool) : TT := fun σ H Q => ∃ G env F, Rel K G H env σ F ∧ ∃ b, m env = some b ∧ ∀ H' G', Ext G H G' H' → Q b H'
abbrev PTM (X : Cx) (e : Expr) (m : En → Option Bool) : Prop := PT X e (tTM X.K m)
abbrev PWM (X : Cx) (e : Expr) (m : En → Option Bool) : Prop := PW X e (tTM X.K m)
inductive Args (K : PySem.W.Frag) (G H : Hp) : List T → List V → Prop
  | nil : Args K G H [] []
  | cons {t : T} {v : V} {F : List Addr} {ts : List T} {vs : List V} : TR K G H t v F → Args K G H ts vs → Args K G H (t :: ts) (v :: vs)
theorem Args.ext {K : PySem.W.Frag} {G H G' H' : Hp} (e : Ext G H G' H') : ∀ {ts : List T} {vs : List V}, Args K G H ts vs → Args K G' H' ts vs
  | _, _, .nil => .nil
  | _, _, .cons h r => .cons (h.keep e.gg (Keep.of e.hh)) (r.ext e)
theorem Args.length {K : PySem.W.Frag} {G H : Hp} : ∀ {ts : List T} {vs : List V}, Args K G H ts vs → ts.length = vs.length
  | _, _, .nil => rfl
  | _, _, .cons h r => by simp [r.length]
theorem Args.get {K : PySem.W.Frag} {G H : Hp} : ∀ {ts : List T} {vs : List V} {i : Nat} {t : T}, Args K G H ts vs → ts[i]? = some t → ∃ v F, vs[i]? = some v ∧ TR K G H t v F
  | _, _, _, _, .nil, e => by simp at e
  | _, _, 0, _, .cons h _, e => by simp at e; subst e; exact ⟨_, _, rfl, h⟩
  | _, _, i + 1, t, .cons _ r, e => by
    obtain ⟨v, F, h1, h2⟩ := Args.get (i := i) (t := t) r (by simpa using e)
    exact ⟨v, F, by simpa using h1, h2⟩
theorem TRs.args {K : PySem.W.Frag} {G H : Hp} : ∀ {ts : List T} {vs : List V} {F : List Addr}, TRs K G H ts vs F → Args K G H ts vs
  | _, _, _, .nil => .nil
  | _, _, _, .cons h r => .cons h (TRs.args r)
theorem Rps.args {K : PySem.W.Frag} {G H : Hp} : ∀ {ds : List D} {vs : List V}, Rps K G vs ds → Args K G H (ds.map T.p) vs
  | _, _, .nil => .nil
  | _, _, .cons h r => .cons (.p h) (Rps.args r)
def tAM (K : PySem.W.Frag) (m : En → Option (List T)) : TA := fun σ H Q => ∃ G env F, Rel K G H env σ F ∧ ∃ ts, m env = some ts ∧ ∀ vs H' G', Ext G H G' H' → Args K G' H' ts vs → Q vs H'
abbrev PAM (X : Cx) (es : List Expr) (m : En → Option (List T)) : Prop := PA X es (tAM X.K m)

def R2M (K : PySem.W.Frag) (r : R2) (f : T → T → Option T) : Prop := ∀ (G H : Hp) (t1 t2 t : T) (x y : V) (F1 F2 : List Addr), f t1 t2 = some t → Same G H → TR K G H t1 x F1 → TR K G H t2 y F2 →
  ∀ Q : VK, (∀ v H' G' F', Ext G H G' H' → TR K G' H' t v F' → Q v H') → r x y H Q
def CM (K : PySem.W.Frag) (r : List V → Hp → VK → Prop) (f : List T → Option T) : Prop := ∀ (G H : Hp) (ts : List T) (t : T) (xs : List V), f ts = some t → Same G H → Args K G H ts xs →
  ∀ Q : VK, (∀ v H' G' F', Ext G H G' H' → TR K G' H' t v F' → Q v H') → r xs H Q

def mVar (i : Nat) : EM := fun env => ((env[i]?).join).map T.strip
def mC (d : D) : EM := fun _ => some (.p d)
def mOp (f : T → T → Option T) (a b : EM) : EM := fun env => (a env).bind fun x => (b env).bind fun y => f x y
def mCall (f : List T → Option T) (as : En → Option (List T)) : EM := fun env => (as env).bind f
def aNil : En → Option (List T) := fun _ => some []
def aCons (a : EM) (as : En → Option (List T)) : En → Option (List T) := fun env => (a env).bind fun x => (as env).map fun xs => x :: xs
def T.bool? : T → Option Bool
  | .p (.bool b) => some b
  | _ => none
def bVal (m : EM) : En → Option Bool := fun env => (m env).bind T.bool?
def bOp (f : T → T → Option T) (a b : EM) : En → Option Bool := bVal (mOp f a b)
def bAnd (a b : En → Option Bool) : En → Option Bool := fun env => (a env).bind fun x => if x then b env else some false
def bOr (a b : En → Option Bool) : En → Option Bool := fun env => (a env).bind fun x => if x then some true else b env
def bNot (a : En → Option Bool) : En → Option Bool := fun env => (a env).map fun x => !x
def mAnd (a b : EM) : EM := fun env => (a env).bind fun x => x.bool?.bind fun c => if c then b env else some (.p (.bool false))
def mOr (a b : EM) : EM := fun env => (a env).bind fun x => x.bool?.bind fun c => if c then some (.p (.bool true)) else b env
def mNot (a : EM) : EM := fun env => (a env).bind fun x => x.bool?.map fun c => .p (.bool !c)
def mIf (c : En → Option Bool) (a b : EM) : EM := fun env => (c env).bind fun x => if x then a env else b env
def mChain (f g : T → T → Option T) (a b c : EM) : EM := fun env => (a env).bind fun x => (b env).bind fun y => (f x y).bind fun z => z.bool?.bind fun k => if k then (c env).bind fun u => g y u else some (.p (.bool false))

theorem TR.bool {K : PySem.W.Frag} {G H : Hp} {t : T} {v : V} {F : List Addr} {b : Bool} (r : TR K G H t v F) (e : t.bool? = some b) : v = .bl b ∧ t = .p (.bool b) := by
  cases r with
  | p h =>
    cases h with
    | bl c => simp [T.bool?] at e; subst e; exact ⟨rfl, rfl⟩
    | _ => simp [T.bool?] at e
  | _ => simp [T.bool?] at e

section
variable {X : Cx}
theorem pm_var (i : Nat) {x : Str} {pos : Pos} (hN : X.N[i]? = some x := by rfl) (hv : Vis X.env.scope x := by first | exact Or.inl rfl | exact Or.inr (Or.inl rfl) | exact Or.inr (Or.inr rfl)) (hd : (x == ("__debug__" : Str)) = false := by decide)
    (hcd : (x == ("__classdict__" : Str)) = false := by decide) : PM X (.Name x pos) (mVar i) := by
  refine PE_imp (pe_var hN hv hd hcd) fun σ H Q h => ?_
  obtain ⟨G, env, F, rel, t, e, q⟩ := h
  obtain ⟨t0, e', rfl⟩ : ∃ t0, env[i]? = some (some t0) ∧ t0.strip = t := by
    unfold mVar at e
    cases z : env[i]? with
    | none => rw [z] at e; cases e
    | some o =>
      rw [z] at e
      cases o with
      | none => cases e
      | some t0 => cases e; exact ⟨t0, rfl, rfl⟩
  obtain ⟨v, F1, Fa, Fb, h1, h2, _⟩ := rel.es.split e'
  exact ⟨v, h1, q v H G F1 (Ext.refl rel.sm) h2.strip⟩
theorem pm_c {e : Expr} {v : V} {d : D} (h : PE X e (tC v)) (r : ∀ G, Rp X.K G v d) : PM X e (mC d) := by
  refine PE_imp h fun σ H Q h => ?_
  obtain ⟨G, env, F, rel, t, e, q⟩ := h
  cases e
  exact q v H G [] (Ext.refl rel.sm) (.p (r G))
theorem pm_int {i j pos} : PM X (.Constant (.int i) j pos) (mC (.int i)) := pm_c pe_int fun _ => .int i
theorem pm_bl {b j pos} : PM X (.Constant (.bool b) j pos) (mC (.bool b)) := pm_c pe_bl fun _ => .bl b
theorem pm_non {j pos} : PM X (.Constant .none j pos) (mC .none) := pm_c pe_non fun _ => .non
theorem pm_str {x j pos} : PM X (.Constant (.str x) j pos) (mC (.str x)) := pm_c pe_str fun _ => .str x
variable {a b c : Expr} {ma mb mc : EM} {pos : Pos}
theorem tOpM {K : PySem.W.Frag} {r : R2} {f : T → T → Option T} (hl : R2M K r f) {σ : L2.St} {H : Hp} {Q : VK} (h : tM K (mOp f ma mb) σ H Q) : tOp r (tM K ma) (tM K mb) σ H Q := by
  obtain ⟨G, env, F, rel, t, e, q⟩ := h
  simp only [mOp, Option.bind_eq_some_iff] at e
  obtain ⟨t1, e1, t2, e2, e3⟩ := e
  refine ⟨G, env, F, rel, t1, e1, fun x H1 G1 F1 x1 r1 => ?_⟩
  refine ⟨G1, env, F, rel.ext x1, t2, e2, fun y H2 G2 F2 x2 r2 => ?_⟩
  exact hl G2 H2 t1 t2 t x y F1 F2 e3 x2.gh (r1.keep x2.gg (Keep.of x2.hh)) r2 Q fun v H' G' F' x3 r3 => q v H' G' F' ((x1.trans x2).trans x3) r3
theorem pm_op {op : Operator} {r : R2} {f : T → T → Option T} (ho : OpR X (binaryOp op) r) (hl : R2M X.K r f) (ha : PM X a ma) (hb : PM X b mb) : PM X (.BinOp a op b pos) (mOp f ma mb) :=
  PE_imp (pe_op ho ha hb) fun _ _ _ h => tOpM hl h
theorem pm_cmp {op : CmpOp} {r : R2} {f : T → T → Option T} (ho : OpR X (compareOp op) r) (hl : R2M X.K r f) (ha : PM X a ma) (hb : PM X b mb) (hm : behindInMarks op b = false) : PM X (.Compare a [op] [b] pos) (mOp f ma mb) :=
  PE_imp (pe_cmpR ho ha hb hm) fun _ _ _ h => tOpM hl h
theorem pm_ix {r : R2} {f : T → T → Option T} (ho : IxR X r) (hl : R2M X.K r f) (ha : PM X a ma) (hb : PM X b mb) (hs : PlainIx b) : PM X (.Subscript a b pos) (mOp f ma mb) :=
  PE_imp (pe_ix ho ha hb hs) fun _ _ _ h => tOpM hl h
theorem tBM {K : PySem.W.Frag} {m : EM} {σ : L2.St} {H : Hp} {Q : Bool → Hp → Prop} (h : tTM K (bVal m) σ H Q) : tM K m σ H fun x H1 => ∃ k, x = .bl k ∧ Q k H1 := by
  obtain ⟨G, env, F, rel, b, e, q⟩ := h
  simp only [bVal, Option.bind_eq_some_iff] at e
  obtain ⟨t, e1, e2⟩ := e
  refine ⟨G, env, F, rel, t, e1, fun v H' G' F' x r => ?_⟩
  obtain ⟨rfl, _⟩ := r.bool e2
  exact ⟨b, rfl, q H' G' x⟩
theorem ptm_cmp {op : CmpOp} {r : R2} {f : T → T → Option T} (ho : OpR X (compareOp op) r) (hl : R2M X.K r f) (ha : PM X a ma) (hb : PM X b mb) (hm : behindInMarks op b = false) : PTM X (.Compare a [op] [b] pos) (bOp f ma mb) := by
  refine PT_imp (pt_cmpR ho ha hb hm) fun σ H Q h => ?_
  exact tOpM hl (Q := fun x H' => ∃ k, x = .bl k ∧ Q k H') (tBM h)
theorem ptm_val {e : Expr} {m : EM} (h : PM X e m) (he : ∀ whole, isTrue e X.env whole = (do let v ← whole; standAt e.pos; holding [v] (truthy v)) := by intro _; rfl) : PTM X e (bVal m) :=
  PT_imp (pt_val h he) fun σ H Q q => tBM q
theorem ptm_not {m : En → Option Bool} (h : PTM X a m) : PTM X (.UnaryOp .Not a pos) (bNot m) := by
  refine PT_imp (pt_not h) fun σ H Q q => ?_
  obtain ⟨G, env, F, rel, b, e, q⟩ := q
  simp only [bNot, Option.map_eq_some_iff] at e
  obtain ⟨x, e1, rfl⟩ := e
  exact ⟨G, env, F, rel, x, e1, fun H' G' x1 => q H' G' x1⟩
variable {rest : List Expr} {m m' : En → Option Bool}
theorem pwm_and1 (h : PTM X a m) : PWM X (.BoolOp .And [a] pos) m := pw_and1 h
theorem pwm_or1 (h : PTM X a m) : PWM X (.BoolOp .Or [a] pos) m := pw_or1 h
theorem pwm_and (h : PTM X a m) (h' : PWM X (.BoolOp .And (b :: rest) pos) m') : PWM X (.BoolOp .And (a :: b :: rest) pos) (bAnd m m') := by
  refine PW_imp (pw_and h h') fun σ H Q q => ?_
  obtain ⟨G, env, F, rel, k, e, q⟩ := q
  simp only [bAnd, Option.bind_eq_some_iff] at e
  obtain ⟨x, e1, e2⟩ := e
  refine ⟨G, env, F, rel, x, e1, fun H' G' x1 => ?_⟩
  cases x with
  | true =>
    rw [if_pos rfl] at e2 ⊢
    exact ⟨G', env, F, rel.ext x1, k, e2, fun H2 G2 x2 => q H2 G2 (x1.trans x2)⟩
  | false =>
    rw [if_neg Bool.false_ne_true] at e2 ⊢
    cases e2
    exact q H' G' x1
theorem pwm_or (h : PTM X a m) (h' : PWM X (.BoolOp .Or (b :: rest) pos) m') : PWM X (.BoolOp .Or (a :: b :: rest) pos) (bOr m m') := by
  refine PW_imp (pw_or h h') fun σ H Q q => ?_
  obtain ⟨G, env, F, rel, k, e, q⟩ := q
  simp only [bOr, Option.bind_eq_some_iff] at e
  obtain ⟨x, e1, e2⟩ := e
  refine ⟨G, env, F, rel, x, e1, fun H' G' x1 => ?_⟩
  cases x with
  | true =>
    rw [if_pos rfl] at e2 ⊢
    cases e2
    exact q H' G' x1
  | false =>
    rw [if_neg Bool.false_ne_true] at e2 ⊢
    exact ⟨G', env, F, rel.ext x1, k, e2, fun H2 G2 x2 => q H2 G2 (x1.trans x2)⟩
theorem ptm_w {e : Expr} (h : PWM X e m) : PTM X e m := h.pt
theorem pm_one {op : BoolOp} (h : PM X a ma) : PM X (.BoolOp op [a] pos) ma := pe_one h
theorem pm_and (ha : PM X a ma) (hb : PM X (.BoolOp .And (b :: rest) pos) mb) : PM X (.BoolOp .And (a :: b :: rest) pos) (mAnd ma mb) := by
  refine PE_imp (pe_and ha hb) fun σ H Q q => ?_
  obtain ⟨G, env, F, rel, t, e, q⟩ := q
  simp only [mAnd, Option.bind_eq_some_iff] at e
  obtain ⟨x, e1, k, e2, e3⟩ := e
  refine ⟨G, env, F, rel, x, e1, fun v H' G' F' x1 r => ?_⟩
  obtain ⟨rfl, _⟩ := r.bool e2
  refine ⟨k, rfl, ?_⟩
  cases k with
  | true =>
    rw [if_pos rfl] at e3 ⊢
    exact ⟨G', env, F, rel.ext x1, t, e3, fun v H2 G2 F2 x2 r2 => q v H2 G2 F2 (x1.trans x2) r2⟩
  | false =>
    rw [if_neg Bool.false_ne_true] at e3 ⊢
    cases e3
    exact q _ H' G' [] x1 (.p (.bl false))
theorem pm_or (ha : PM X a ma) (hb : PM X (.BoolOp .Or (b :: rest) pos) mb) : PM X (.BoolOp .Or (a :: b :: rest) pos) (mOr ma mb) := by
  refine PE_imp (pe_or ha hb) fun σ H Q q => ?_
  obtain ⟨G, env, F, rel, t, e, q⟩ := q
  simp only [mOr, Option.bind_eq_some_iff] at e
  obtain ⟨x, e1, k, e2, e3⟩ := e
  refine ⟨G, env, F, rel, x, e1, fun v H' G' F' x1 r => ?_⟩
  obtain ⟨rfl, _⟩ := r.bool e2
  refine ⟨k, rfl, ?_⟩
  cases k with
  | false =>
    rw [if_neg Bool.false_ne_true] at e3 ⊢
    exact ⟨G', env, F, rel.ext x1, t, e3, fun v H2 G2 F2 x2 r2 => q v H2 G2 F2 (x1.trans x2) r2⟩
  | true =>
    rw [if_pos rfl] at e3 ⊢
    cases e3
    exact q _ H' G' [] x1 (.p (.bl true))
variable {e : Expr} {es : List Expr} {me : EM} {ms : En → Option (List T)}
theorem pam_nil : PAM X [] aNil := by
  refine PA_imp pa_nil fun σ H Q h => ?_
  obtain ⟨G, env, F, rel, ts, e, q⟩ := h
  cases e
  exact q [] H G (Ext.refl rel.sm) .nil
theorem pam_cons (ha : PM X e me) (hr : PAM X es ms) (hs : starEach (e :: es) X.env = (false, eval e X.env) :: starEach es X.env := by rfl) : PAM X (e :: es) (aCons me ms) := by
  refine PA_imp (pa_cons ha hr hs) fun σ H Q h => ?_
  obtain ⟨G, env, F, rel, ts, e1, q⟩ := h
  simp only [aCons, Option.bind_eq_some_iff, Option.map_eq_some_iff] at e1
  obtain ⟨t, e2, tr, e3, rfl⟩ := e1
  refine ⟨G, env, F, rel, t, e2, fun x H1 G1 F1 x1 r1 => ?_⟩
  refine ⟨G1, env, F, rel.ext x1, tr, e3, fun ys H2 G2 x2 r2 => ?_⟩
  exact q (x :: ys) H2 G2 (x1.trans x2) (.cons (r1.keep x2.gg (Keep.of x2.hh)) r2)
theorem tCBM {K : PySem.W.Frag} {r : List V → Hp → VK → Prop} {f : List T → Option T} (hl : CM K r f) {σ : L2.St} {H : Hp} {Q : VK} (h : tM K (mCall f ms) σ H Q) : tCB r (tAM K ms) σ H Q := by
  obtain ⟨G, env, F, rel, t, e, q⟩ := h
  simp only [mCall, Option.bind_eq_some_iff] at e
  obtain ⟨ts, e1, e2⟩ := e
  refine ⟨G, env, F, rel, ts, e1, fun vs H1 G1 x1 r1 => ?_⟩
  exact hl G1 H1 ts t vs e2 x1.gh r1 Q fun v H' G' F' x2 r2 => q v H' G' F' (x1.trans x2) r2
theorem pm_callB {x : Str} {id : String} {r : List V → Hp → VK → Prop} {f : List T → Option T} {p : Pos} (hc : CallR X (.builtin id) r) (hl : CM X.K r f) (hg : Gl X x) (hm : X.mg x = none) (hv : bootBuiltins x = some (.builtin id)) (ha : PAM X (e :: es) ms)
    (hn : x ≠ "__name__" := by decide) (hdb : (x == ("__debug__" : Str)) = false := by decide)
    (he : starEach (e :: es) X.env = (false, eval e X.env) :: starEach es X.env := by rfl) (hpl : (backTo pos (starEach es X.env)).any (·.1) = false := by rfl) : PM X (.Call (.Name x p) (e :: es) [] pos) (mCall f ms) :=
  PE_imp (pe_callB hc hg hm hv ha hn hdb he hpl) fun _ _ _ h => tCBM hl h
theorem pm_callTy {x : Str} {id : String} {r : List V → Hp → VK → Prop} {f : List T → Option T} {p : Pos} (hc : CallR X (.type id) r) (hl : CM X.K r f) (hg : Gl X x) (hm : X.mg x = none) (hv : bootBuiltins x = some (.type id)) (ha : PAM X (e :: es) ms)
    (hn : x ≠ "__name__" := by decide) (hdb : (x == ("__debug__" : Str)) = false := by decide)
    (he : starEach (e :: es) X.env = (false, eval e X.env) :: starEach es X.env := by rfl) (hpl : (backTo pos (starEach es X.env)).any (·.1) = false := by rfl) : PM X (.Call (.Name x p) (e :: es) [] pos) (mCall f ms) :=
  PE_imp (pe_callTy hc hg hm hv ha hn hdb he hpl) fun _ _ _ h => tCBM hl h
def T.pure? : T → Option D
  | .p d => some d
  | _ => none
def pures : List T → Option (List D)
  | [] => some []
  | t :: r => t.pure?.bind fun d => (pures r).map fun ds => d :: ds
theorem pures_map : ∀ ds : List D, pures (ds.map T.p) = some ds
  | [] => rfl
  | d :: r => by simp [pures, T.pure?, pures_map r]
theorem Args.pures {K : PySem.W.Frag} {G H : Hp} : ∀ {ts : List T} {vs : List V} {ds : List D}, Args K G H ts vs → pures ts = some ds → Rps K G vs ds
  | _, _, _, .nil, e => by simp [M.pures] at e; subst e; exact .nil
  | _, _, _, .cons (t := t) h r, e => by
    simp only [M.pures, Option.bind_eq_some_iff, Option.map_eq_some_iff] at e
    obtain ⟨d, e1, ds, e2, rfl⟩ := e
    cases t with
    | p d' => simp [T.pure?] at e1; subst e1; exact .cons h.pure (Args.pures r e2)
    | _ => simp [T.pure?] at e1
def mTup (ms : En → Option (List T)) : EM := fun env => (ms env).bind fun ts => (pures ts).bind fun ds => if ds.length ≤ LIM then some (.p (.tuple ds)) else none
def mLst (ms : En → Option (List T)) : EM := fun env => (ms env).bind fun ts => (pures ts).bind fun ds => if ds.length ≤ LIM then some (.p (.list ds)) else none
theorem pm_tup {x1} (h : PAM X es ms) : PM X (.Tuple es x1 pos) (mTup ms) := by
  refine PE_imp (pe_tup h) fun σ H Q q => ?_
  obtain ⟨G, env, F, rel, t, e1, q⟩ := q
  simp only [mTup, Option.bind_eq_some_iff] at e1
  obtain ⟨ts, e2, ds, e3, e4⟩ := e1
  split at e4
  · rename_i hz
    cases e4
    refine ⟨G, env, F, rel, ts, e2, fun vs H1 G1 x1 r1 => ?_⟩
    have rr := r1.pures e3
    refine ⟨by rw [rr.length]; exact Nat.le_trans hz LIM_line, fun p np => ?_⟩
    have x2 := Ext.new (o := .tup vs) x1.gh np
    exact q _ _ _ [] (x1.trans x2) (.p (.tup (.inl (.inl upd_same)) (rr.mono x2.gg)))
  · cases e4
theorem pm_lst (h : PAM X es ms) : PM X (.List es pos) (mLst ms) := by
  refine PE_imp (pe_lst h) fun σ H Q q => ?_
  obtain ⟨G, env, F, rel, t, e1, q⟩ := q
  simp only [mLst, Option.bind_eq_some_iff] at e1
  obtain ⟨ts, e2, ds, e3, e4⟩ := e1
  split at e4
  · rename_i hz
    cases e4
    refine ⟨G, env, F, rel, ts, e2, fun vs H1 G1 x1 r1 => ?_⟩
    have rr := r1.pures e3
    refine ⟨by rw [rr.length]; exact Nat.le_trans hz LIM_line, fun p np => ?_⟩
    have x2 := Ext.new (o := .lst vs) x1.gh np
    exact q _ _ _ [] (x1.trans x2) (.p (.lst upd_same (rr.mono x2.gg)))
  · cases e4
end
end M
namespace M
open PySem PySem.Spec PyProof.Rows L2

def T.int? : T → Option Int
  | .p (.int i) => some i
  | _ => none
def T.kids : T → Option (List T)
  | .p (.list ds) => some (ds.map T.p)
  | .p (.tuple ds) => some (ds.map T.p)
  | .sc ns => some ((ns.map PyData.int).map T.p)
  | .ml ts => some ts
  | .tp ts => some ts
  | _ => none
/-- a tracked list of pure items -/
def T.lst? : T → Option (List D)
  | .p (.list ds) => some ds
  | .ml ts => pures ts
  | _ => none
def T.tup? : T → Option (List D)
  | .p (.tuple ds) => some ds
  | .tp ts => pures ts
  | _ => none
def T.ptup? : T → Option (List D)
  | .p (.tuple ds) => some ds
  | _ => none
/-- a list that may be read -/
def T.seq? : T → Option (List D)
  | .p (.list ds) => some ds
  | .ml ts => pures ts
  | .sc ns => some (ns.map PyData.int)
  | _ => none

section
variable {K : PySem.W.Frag} {G H : Hp} {t : T} {v : V} {F : List Addr}
theorem TR.int (r : TR K G H t v F) {i : Int} (e : t.int? = some i) : v = .int i := by
  cases r with
  | p h => cases h <;> simp [T.int?] at e; subst e; rfl
  | _ => simp [T.int?] at e
theorem TR.kids (r : TR K G H t v F) (s : Same G H) {ts : List T} (e : t.kids = some ts) : ∃ a vs, v = .ref a ∧ (SqL K H a vs ∨ SqT K H a vs) ∧ Args K G H ts vs := by
  cases r with
  | p h =>
    cases h with
    | lst h r => simp [T.kids] at e; subst e; exact ⟨_, _, rfl, .inl (.inl (.inl (s _ _ h))), Rps.args r⟩
    | tup h r => simp [T.kids] at e; subst e; exact ⟨_, _, rfl, .inr (Same.seqT s h), Rps.args r⟩
    | _ => simp [T.kids] at e
  | sc h => simp only [T.kids, Option.some.injEq] at e; subst e; exact ⟨_, _, rfl, .inl (s.seq h), Rps.args (Rps.of_ints _)⟩
  | ml h r => simp [T.kids] at e; subst e; exact ⟨_, _, rfl, .inl (.inl (.inl h)), r.args⟩
  | tp h r => simp [T.kids] at e; subst e; exact ⟨_, _, rfl, .inr (.inl (.inl h)), r.args⟩
  | _ => simp [T.kids] at e
theorem TR.lst (r : TR K G H t v F) (s : Same G H) {ds : List D} (e : t.lst? = some ds) : ∃ a vs, v = .ref a ∧ H a = some (.lst vs) ∧ Rps K G vs ds := by
  cases r with
  | p h =>
    cases h with
    | lst h r => simp [T.lst?] at e; subst e; exact ⟨_, _, rfl, s _ _ h, r⟩
    | _ => simp [T.lst?] at e
  | ml h r => exact ⟨_, _, rfl, h, r.args.pures e⟩
  | _ => simp [T.lst?] at e
theorem TR.tup (r : TR K G H t v F) (s : Same G H) {ds : List D} (e : t.tup? = some ds) : ∃ a vs, v = .ref a ∧ SqT K H a vs ∧ Rps K G vs ds := by
  cases r with
  | p h =>
    cases h with
    | tup h r => simp [T.tup?] at e; subst e; exact ⟨_, _, rfl, Same.seqT s h, r⟩
    | _ => simp [T.tup?] at e
  | tp h r => exact ⟨_, _, rfl, .inl (.inl h), r.args.pures e⟩
  | _ => simp [T.tup?] at e
theorem TR.ptup (r : TR K G H t v F) {ds : List D} (e : t.ptup? = some ds) : ∃ a vs, v = .ref a ∧ SqT K G a vs ∧ Rps K G vs ds := by
  cases r with
  | p h =>
    cases h with
    | tup h r => simp [T.ptup?] at e; subst e; exact ⟨_, _, rfl, h, r⟩
    | _ => simp [T.ptup?] at e
  | _ => simp [T.ptup?] at e
theorem TR.seq (r : TR K G H t v F) (s : Same G H) {ds : List D} (e : t.seq? = some ds) : ∃ a vs, v = .ref a ∧ SqL K H a vs ∧ Rps K G vs ds := by
  cases r with
  | p h =>
    cases h with
    | lst h r => simp [T.seq?] at e; subst e; exact ⟨_, _, rfl, .inl (.inl (s _ _ h)), r⟩
    | _ => simp [T.seq?] at e
  | ml h r => exact ⟨_, _, rfl, .inl (.inl h), r.args.pures e⟩
  | sc h => simp only [T.seq?, Option.some.injEq] at e; subst e; exact ⟨_, _, rfl, s.seq h, Rps.of_ints _⟩
  | _ => simp [T.seq?] at e
theorem Args.at {ts : List T} {vs : List V} (r : Args K G H ts vs) {i : Int} {t : T} (e : atI ts i = some t) : ∃ v F, atI vs i = some v ∧ TR K G H t v F := by
  unfold atI at e ⊢
  rw [Option.bind_eq_some_iff] at e
  obtain ⟨j, e1, e2⟩ := e
  obtain ⟨v, F, h1, h2⟩ := r.get e2
  exact ⟨v, F, by rw [← r.length, e1]; exact h1, h2⟩
end

def iOp (f : Int → Int → Option Int) : T → T → Option T := fun a b => a.int?.bind fun i => b.int?.bind fun j => (f i j).map fun k => .p (.int k)
def cOp (f : Int → Int → Bool) : T → T → Option T := fun a b => a.int?.bind fun i => b.int?.map fun j => .p (.bool (f i j))
section
variable {K : PySem.W.Frag}
theorem r2m_i {C : Int → Int → Prop} {g : Int → Int → Int} {f : Int → Int → Option Int} (h : ∀ i j k, f i j = some k → C i j ∧ k = g i j) : R2M K (rI C fun i j => .int (g i j)) (iOp f) := by
  intro G H t1 t2 t x y F1 F2 e s r1 r2 Q q
  simp only [iOp, Option.bind_eq_some_iff, Option.map_eq_some_iff] at e
  obtain ⟨i, e1, j, e2, k, e3, rfl⟩ := e
  obtain ⟨c, rfl⟩ := h i j k e3
  exact ⟨i, j, r1.int e1, r2.int e2, c, q _ H G [] (Ext.refl s) (.p (.int _))⟩
theorem r2m_i0 {g : Int → Int → Int} : R2M K (rI0 fun i j => .int (g i j)) (iOp fun i j => some (g i j)) := by
  intro G H t1 t2 t x y F1 F2 e s r1 r2 Q q
  simp only [iOp, Option.bind_eq_some_iff, Option.map_eq_some_iff] at e
  obtain ⟨i, e1, j, e2, k, e3, rfl⟩ := e
  cases e3
  exact ⟨i, j, r1.int e1, r2.int e2, q _ H G [] (Ext.refl s) (.p (.int _))⟩
theorem r2m_c {g : Int → Int → Bool} : R2M K (rI0 fun i j => .bl (g i j)) (cOp g) := by
  intro G H t1 t2 t x y F1 F2 e s r1 r2 Q q
  simp only [cOp, Option.bind_eq_some_iff, Option.map_eq_some_iff] at e
  obtain ⟨i, e1, j, e2, rfl⟩ := e
  exact ⟨i, j, r1.int e1, r2.int e2, q _ H G [] (Ext.refl s) (.p (.bl _))⟩
end
def mulOk (i j : Int) : Bool := decide (i.natAbs < 2 ^ 64) || decide (j.natAbs < 2 ^ 64) || decide (i.natAbs.log2 + j.natAbs.log2 < 1000000)
def CMulB (i j : Int) : Prop := mulOk i j = true
theorem CMulB.ok {i j : Int} (h : CMulB i j) : IntMulOk i j := by
  unfold CMulB mulOk at h
  simp only [Bool.or_eq_true, decide_eq_true_eq] at h
  rcases h with (h | h) | h
  · exact (show CMul i j from .inl ⟨by omega, by omega⟩).ok
  · exact (show CMul i j from .inr ⟨by omega, by omega⟩).ok
  · exact (show CMulW i j from h).ok
def divOk (j : Int) : Bool := decide (j ≠ 0) && decide (j.natAbs.log2 < 9000)
def CDivB (_ j : Int) : Prop := divOk j = true
section
variable {X : Cx}
theorem op_mulB : OpR X (binaryOp .Mult) (rI CMulB fun i j => .int (i * j)) := opI fun _ _ _ _ _ _ _ hc q => mul_int q hc.ok
theorem op_fdivB : OpR X (binaryOp .FloorDiv) (rI CDivB fun i j => .int (i.fdiv j)) := opI fun i j _ _ _ _ _ hc q => by
  have h : divOk j = true := hc
  unfold divOk at h
  simp only [Bool.and_eq_true, decide_eq_true_eq] at h
  exact floordiv_int h.1 q (.inl (PyProof.noPylong_of_log2 h.2))
end
def subT : T → T → Option T := iOp fun i j => some (i - j)
def modT : T → T → Option T := iOp fun i j => if j = 0 then none else some (i.fmod j)
def fdivT : T → T → Option T := iOp fun i j => if divOk j then some (i.fdiv j) else none
def powT : T → T → Option T := iOp fun i j => if 0 ≤ j ∧ j ≤ 1000000 ∧ i.natAbs < 2 ^ 64 then some (i ^ j.toNat) else none
def ltT : T → T → Option T := cOp fun i j => decide (i < j)
def leT : T → T → Option T := cOp fun i j => decide (i ≤ j)
def gtT : T → T → Option T := cOp fun i j => decide (j < i)
def geT : T → T → Option T := cOp fun i j => decide (j ≤ i)
def addT : T → T → Option T := fun a b =>
  match a.int?, b.int? with
  | some i, some j => some (.p (.int (i + j)))
  | _, _ => match a.lst?, b.lst? with
    | some xs, some ys => if xs.length + ys.length ≤ LIM then some (.p (.list (xs ++ ys))) else none
    | _, _ => match a.ptup?, b.ptup? with
      | some xs, some ys => if xs.length + ys.length ≤ LIM then some (.p (.tuple (xs ++ ys))) else none
      | _, _ => match a, b with
        | .p (.str x), .p (.str y) => if x.length + y.length ≤ LIM then some (.p (.str (x ++ y))) else none
        | _, _ => none
/-- a list may be told so many times -/
def rep62 (m : Nat) (j : Int) : Prop := -(2 ^ 62) ≤ j ∧ j < 2 ^ 62 ∧ m * j.toNat ≤ LIM
noncomputable instance (m : Nat) (j : Int) : Decidable (rep62 m j) := Classical.propDecidable _
noncomputable def mulT : T → T → Option T := fun a b =>
  match a.int?, b.int? with
  | some i, some j => if mulOk i j then some (.p (.int (i * j))) else none
  | _, some j => match a.lst? with
    | some xs => if rep62 xs.length j then some (.p (.list (List.replicate j.toNat xs).flatten)) else none
    | none => match a.tup? with
      | some xs => if xs ≠ [] ∧ 2 ≤ j ∧ j ≤ 1000 ∧ xs.length ≤ 1000 then some (.p (.tuple (List.replicate j.toNat xs).flatten)) else none
      | none => none
  | _, none => none
def rAddA (K : PySem.W.Frag) : R2 := fun x y H Q => (rI0 (fun i j => .int (i + j)) x y H Q ∨ rCat x y H Q) ∨ (rCatA K x y H Q ∨ ∃ i j, x = .str i ∧ y = .str j ∧ i.length + j.length ≤ sizeLine ∧ Q (.str (i ++ j)) H)
def rMulA (K : PySem.W.Frag) : R2 := fun x y H Q => rI CMulB (fun i j => .int (i * j)) x y H Q ∨ (rRep x y H Q ∨ rRepT K x y H Q)
theorem op_addA {X : Cx} : OpR X (binaryOp .Add) (rAddA X.K) := (op_add.or op_cat).or (op_catA.or op_add_str)
theorem op_mulA {X : Cx} : OpR X (binaryOp .Mult) (rMulA X.K) := op_mulB.or (op_rep.or op_repT)
section
variable {K : PySem.W.Frag}
theorem r2m_sub : R2M K (rI0 fun i j => .int (i - j)) subT := r2m_i0
theorem r2m_mod : R2M K (rI (fun _ j => j ≠ 0) fun i j => .int (i.fmod j)) modT := r2m_i fun i j k e => by
  split at e
  · cases e
  · rename_i h; cases e; exact ⟨h, rfl⟩
theorem r2m_fdiv : R2M K (rI CDivB fun i j => .int (i.fdiv j)) fdivT := r2m_i fun i j k e => by
  split at e
  · rename_i h; cases e; exact ⟨h, rfl⟩
  · cases e
theorem r2m_pow : R2M K (rI CPow fun i j => .int (i ^ j.toNat)) powT := r2m_i fun i j k e => by
  split at e
  · rename_i h; cases e; exact ⟨h, rfl⟩
  · cases e
theorem r2m_lt : R2M K (rI0 fun i j => .bl (decide (i < j))) ltT := r2m_c
theorem r2m_gt : R2M K (rI0 fun i j => .bl (decide (j < i))) gtT := r2m_c
theorem r2m_ge : R2M K (rI0 fun i j => .bl (decide (j ≤ i))) geT := r2m_c
theorem r2m_add : R2M K (rAddA K) addT := by
  intro G H t1 t2 t x y F1 F2 e s r1 r2 Q q
  unfold addT at e
  split at e
  · rename_i i j e1 e2
    cases e
    exact .inl (.inl ⟨i, j, r1.int e1, r2.int e2, q _ H G [] (Ext.refl s) (.p (.int _))⟩)
  · split at e
    · rename_i xs ys e1 e2
      split at e
      · rename_i hz
        cases e
        obtain ⟨a, vs, rfl, h1, p1⟩ := r1.lst s e1
        obtain ⟨b, ws, rfl, h2, p2⟩ := r2.lst s e2
        refine .inl (.inr ⟨a, b, vs, ws, rfl, rfl, h1, h2, by rw [p1.length, p2.length]; exact Nat.le_trans hz LIM_line, fun p np => ?_⟩)
        have x2 := Ext.new (o := .lst (vs ++ ws)) s np
        exact q _ _ _ [] x2 (.p (.lst upd_same ((p1.append p2).mono x2.gg)))
      · cases e
    · split at e
      · rename_i xs ys e1 e2
        split at e
        · rename_i hz
          cases e
          obtain ⟨a, vs, rfl, g1, p1⟩ := r1.ptup e1
          obtain ⟨b, ws, rfl, g2, p2⟩ := r2.ptup e2
          refine .inr (.inl ⟨a, b, vs, ws, rfl, rfl, Same.seqT s g1, Same.seqT s g2, by rw [p1.length, p2.length]; exact Nat.le_trans hz LIM_line, fun z => ?_, fun _ z => ?_, fun _ _ p np => ?_⟩)
          · subst z
            cases p1
            exact q _ H G [] (Ext.refl s) (.p (.tup g2 p2))
          · subst z
            cases p2
            rw [List.append_nil] at q
            exact q _ H G [] (Ext.refl s) (.p (.tup g1 p1))
          · have x2 := Ext.new (o := .tup (vs ++ ws)) s np
            exact q _ _ _ [] x2 (.p (.tup (.inl (.inl upd_same)) ((p1.append p2).mono x2.gg)))
        · cases e
      · split at e
        · split at e
          · rename_i hz
            cases e
            cases r1.pure
            cases r2.pure
            exact .inr (.inr ⟨_, _, rfl, rfl, Nat.le_trans hz LIM_line, q _ H G [] (Ext.refl s) (.p (.str _))⟩)
          · cases e
        · cases e
theorem r2m_mul : R2M K (rMulA K) mulT := by
  intro G H t1 t2 t x y F1 F2 e s r1 r2 Q q
  unfold mulT at e
  split at e
  · rename_i i j e1 e2
    split at e
    · rename_i hz
      cases e
      exact .inl ⟨i, j, r1.int e1, r2.int e2, hz, q _ H G [] (Ext.refl s) (.p (.int _))⟩
    · cases e
  · rename_i o1 o2 j e1 e2
    split at e
    · rename_i xs e3
      split at e
      · rename_i hz
        have hz : -(2 ^ 62) ≤ j ∧ j < 2 ^ 62 ∧ xs.length * j.toNat ≤ LIM := hz
        cases e
        obtain ⟨a, vs, rfl, h1, p1⟩ := r1.lst s e3
        refine .inr (.inl ⟨a, j, vs, rfl, r2.int e1, h1, by omega, by omega, by rw [p1.length]; exact Nat.le_trans hz.2.2 LIM_line, fun p np => ?_⟩)
        have x2 := Ext.new (o := .lst (List.replicate j.toNat vs).flatten) s np
        exact q _ _ _ [] x2 (.p (.lst upd_same ((p1.rep _).mono x2.gg)))
      · cases e
    · split at e
      · rename_i xs e3
        split at e
        · rename_i hz
          cases e
          obtain ⟨a, vs, rfl, h1, p1⟩ := r1.tup s e3
          refine .inr (.inr ⟨a, j, vs, rfl, r2.int e1, h1, fun z => ?_, hz.2.1, hz.2.2.1, by rw [p1.length]; exact hz.2.2.2, fun p np => ?_⟩)
          · subst z
            cases p1
            exact hz.1 rfl
          · have x2 := Ext.new (o := .tup (List.replicate j.toNat vs).flatten) s np
            exact q _ _ _ [] x2 (.p (.tup (.inl (.inl upd_same)) ((p1.rep _).mono x2.gg)))
        · cases e
      · cases e
  · cases e
end

mutual
theorem Rp.dp {K : PySem.W.Frag} {H : Hp} : ∀ {v : V} {d : D}, Rp K H v d → d.canLay0 = true → Dp K H v d
  | _, _, .non, _ => .non
  | _, _, .bl b, _ => .bl b
  | _, _, .int i, _ => .int i
  | _, _, .str x, _ => .str x
  | _, _, .lst h r, e => .lst (.inl (.inl h)) (Rps.dp r (by simpa only [PyData.canLay0] using e))
  | _, _, .tup h r, e => .tup h (Rps.dp r (by simpa only [PyData.canLay0] using e))
  | _, _, .dct h r, e => by simp [PyData.canLay0] at e
theorem Rps.dp {K : PySem.W.Frag} {H : Hp} : ∀ {v : List V} {d : List D}, Rps K H v d → PyData.canLayAll0 d = true → DpAll K H v d
  | _, _, .nil, _ => .nil
  | _, _, .cons h r, e => by
    simp only [PyData.canLayAll0, Bool.and_eq_true] at e
    exact .cons (Rp.dp h e.1) (Rps.dp r e.2)
end
def eqT : T → T → Option T := fun a b => a.snap.bind fun d => b.snap.bind fun e => if SeqAt.shaped d = true ∧ SeqAt.shaped e = true then some (.p (.bool (PyData.eqv d e))) else none
def neT : T → T → Option T := fun a b => a.snap.bind fun d => b.snap.bind fun e => if SeqAt.shaped d = true ∧ SeqAt.shaped e = true then some (.p (.bool (!PyData.eqv d e))) else none
section
variable {K : PySem.W.Frag}
theorem r2m_eq : R2M K (rEqD K) eqT := by
  intro G H t1 t2 t x y F1 F2 e s r1 r2 Q q
  simp only [eqT, Option.bind_eq_some_iff] at e
  obtain ⟨d, e1, d2, e2, e3⟩ := e
  split at e3
  · rename_i hz
    cases e3
    exact ⟨d, d2, (r1.live s e1).dp (SeqAt.canLay_of_shaped hz.1), (r2.live s e2).dp (SeqAt.canLay_of_shaped hz.2), hz.1, hz.2, q _ H G [] (Ext.refl s) (.p (.bl _))⟩
  · cases e3
theorem r2m_ne : R2M K (rNeD K) neT := by
  intro G H t1 t2 t x y F1 F2 e s r1 r2 Q q
  simp only [neT, Option.bind_eq_some_iff] at e
  obtain ⟨d, e1, d2, e2, e3⟩ := e
  split at e3
  · rename_i hz
    cases e3
    exact ⟨d, d2, (r1.live s e1).dp (SeqAt.canLay_of_shaped hz.1), (r2.live s e2).dp (SeqAt.canLay_of_shaped hz.2), hz.1, hz.2, q _ H G [] (Ext.refl s) (.p (.bl _))⟩
  · cases e3
def isnT : T → T → Option T := fun a b => match a, b with
  | .p d, .p .none => some (.p (.bool (match d with | .none => true | _ => false)))
  | _, _ => none
def notnT : T → T → Option T := fun a b => match a, b with
  | .p d, .p .none => some (.p (.bool (match d with | .none => false | _ => true)))
  | _, _ => none
theorem r2m_notn : R2M K (fun x y H Q => y = .non ∧ Q (.bl (!decide (x = .non))) H) notnT := by
  intro G H t1 t2 t x y F1 F2 e s r1 r2 Q q
  unfold notnT at e
  split at e
  · cases e
    have h2 := r2.pure
    have h1 := r1.pure
    cases h2
    refine ⟨rfl, q _ H G [] (Ext.refl s) (.p ?_)⟩
    cases h1 <;> exact .bl _
  · cases e
def idxT : T → T → Option T := fun a b => b.int?.bind fun i => match a with
  | .p (.str z) => if z.length ≤ LIM then (atI z.cps.toList i).map fun c => .p (.str ⟨#[c]⟩) else none
  | a => a.kids.bind fun ts => atI ts i
theorem r2m_ix : R2M K (rIx K) idxT := by
  intro G H t1 t2 t x y F1 F2 e s r1 r2 Q q
  simp only [idxT, Option.bind_eq_some_iff] at e
  obtain ⟨i, e1, e2⟩ := e
  split at e2
  · split at e2
    · rename_i z hz
      rw [Option.map_eq_some_iff] at e2
      obtain ⟨c, e3, rfl⟩ := e2
      cases r1.pure
      exact .inr (.inr ⟨z, i, c, rfl, r2.int e1, Nat.le_trans hz LIM_line, e3, q _ H G [] (Ext.refl s) (.p (.str _))⟩)
    · cases e2
  · rw [Option.bind_eq_some_iff] at e2
    obtain ⟨ts, e3, e4⟩ := e2
    obtain ⟨a, vs, rfl, h1, p1⟩ := r1.kids s e3
    obtain ⟨v, F, h2, h3⟩ := p1.at e4
    rcases h1 with h1 | h1
    · exact .inl ⟨a, vs, i, v, rfl, r2.int e1, h1, h2, q v H G F (Ext.refl s) h3⟩
    · exact .inr (.inl ⟨a, vs, i, v, rfl, r2.int e1, h1, h2, q v H G F (Ext.refl s) h3⟩)
def flatD : D → Bool
  | .none | .bool _ | .int _ | .str _ => true
  | _ => false
theorem Rp.flat {G : Hp} {v : V} {d : D} (r : Rp K G v d) (f : flatD d = true) : flatV v = true := by
  cases r <;> first | rfl | simp [flatD] at f
theorem Rp.eqv {G G' : Hp} {v u : V} {d e : D} (r : Rp K G v d) (r' : Rp K G' u e) (f : flatD d = true) (f' : flatD e = true) : eqV v u = PyData.eqv d e := by
  cases r <;> first | (simp [flatD] at f; done) | (cases r' <;> first | (simp [flatD] at f'; done) | simp [eqV, PyData.eqv])
theorem Rps.any {G G' : Hp} {u : V} {e : D} (r' : Rp K G' u e) (f' : flatD e = true) : ∀ {vs : List V} {ds : List D}, Rps K G vs ds → ds.all flatD = true → vs.all flatV = true ∧ inV u vs = ds.any fun z => PyData.eqv z e
  | _, _, .nil, _ => ⟨rfl, rfl⟩
  | _, _, .cons h r, f => by
    rw [List.all_cons, Bool.and_eq_true] at f
    obtain ⟨h1, h2⟩ := Rps.any r' f' r f.2
    refine ⟨by rw [List.all_cons, h.flat f.1, h1]; rfl, ?_⟩
    unfold inV at h2 ⊢
    rw [List.any_cons, List.any_cons, h2, h.eqv r' f.1 f']
def T.any? : T → Option (List D) := fun t => match t.seq? with
  | some ds => some ds
  | none => t.tup?
theorem TR.any {G H : Hp} {t : T} {v : V} {F : List Addr} (r : TR K G H t v F) (s : Same G H) {ds : List D} (e : t.any? = some ds) : ∃ a vs, v = .ref a ∧ (SqL K H a vs ∨ SqT K H a vs) ∧ Rps K G vs ds := by
  unfold T.any? at e
  split at e
  · rename_i e1
    cases e
    obtain ⟨a, vs, h1, h2, h3⟩ := r.seq s e1
    exact ⟨a, vs, h1, .inl h2, h3⟩
  · obtain ⟨a, vs, h1, h2, h3⟩ := r.tup s e
    exact ⟨a, vs, h1, .inr h2, h3⟩
def inT : T → T → Option T := fun a b => a.pure?.bind fun d => b.any?.bind fun ds => if flatD d = true ∧ ds.all flatD = true then some (.p (.bool (ds.any fun z => PyData.eqv z d))) else none
def notInT : T → T → Option T := fun a b => a.pure?.bind fun d => b.any?.bind fun ds => if flatD d = true ∧ ds.all flatD = true then some (.p (.bool (!ds.any fun z => PyData.eqv z d))) else none
theorem TR.of_pure? {G H : Hp} {t : T} {v : V} {F : List Addr} {d : D} (r : TR K G H t v F) (e : t.pure? = some d) : Rp K G v d := by
  cases t with
  | p d' => simp [T.pure?] at e; subst e; exact r.pure
  | _ => simp [T.pure?] at e
theorem r2m_in : R2M K (rIn K false) inT := by
  intro G H t1 t2 t x y F1 F2 e s r1 r2 Q q
  simp only [inT, Option.bind_eq_some_iff] at e
  obtain ⟨d, e1, ds, e2, e3⟩ := e
  split at e3
  · rename_i hz
    cases e3
    obtain ⟨a, vs, rfl, h1, p1⟩ := r2.any s e2
    have rd := r1.of_pure? e1
    obtain ⟨h2, h3⟩ := Rps.any rd hz.1 p1 hz.2
    refine ⟨a, vs, rfl, h1, rd.flat hz.1, h2, q _ H G [] (Ext.refl s) (.p ?_)⟩
    rw [if_neg Bool.false_ne_true, h3]
    exact .bl _
  · cases e3
theorem r2m_notIn : R2M K (rIn K true) notInT := by
  intro G H t1 t2 t x y F1 F2 e s r1 r2 Q q
  simp only [notInT, Option.bind_eq_some_iff] at e
  obtain ⟨d, e1, ds, e2, e3⟩ := e
  split at e3
  · rename_i hz
    cases e3
    obtain ⟨a, vs, rfl, h1, p1⟩ := r2.any s e2
    have rd := r1.of_pure? e1
    obtain ⟨h2, h3⟩ := Rps.any rd hz.1 p1 hz.2
    refine ⟨a, vs, rfl, h1, rd.flat hz.1, h2, q _ H G [] (Ext.refl s) (.p ?_)⟩
    rw [if_pos rfl, h3]
    exact .bl _
  · cases e3
end
end M
namespace M
open PySem PySem.Spec PyProof.Rows L2

def intsOf : List D → Option (List Int)
  | [] => some []
  | .int i :: r => (intsOf r).map fun ns => i :: ns
  | _ :: _ => none
theorem intsOf_eq : ∀ {ds : List D} {ns : List Int}, intsOf ds = some ns → ds = ns.map PyData.int
  | [], _, e => by cases e; rfl
  | .int i :: r, _, e => by
    simp only [intsOf, Option.map_eq_some_iff] at e
    obtain ⟨ns, e1, rfl⟩ := e
    rw [intsOf_eq e1]; rfl
  | .none :: _, _, e => by simp [intsOf] at e
  | .bool _ :: _, _, e => by simp [intsOf] at e
  | .str _ :: _, _, e => by simp [intsOf] at e
  | .list _ :: _, _, e => by simp [intsOf] at e
  | .tuple _ :: _, _, e => by simp [intsOf] at e
  | .dict _ :: _, _, e => by simp [intsOf] at e
theorem intsOf_map : ∀ ns : List Int, intsOf (ns.map PyData.int) = some ns
  | [] => rfl
  | n :: r => by simp [intsOf, intsOf_map r]
def boolsOf : List D → Option (List Bool)
  | [] => some []
  | .bool i :: r => (boolsOf r).map fun ns => i :: ns
  | _ :: _ => none
theorem boolsOf_eq : ∀ {ds : List D} {ns : List Bool}, boolsOf ds = some ns → ds = ns.map PyData.bool
  | [], _, e => by cases e; rfl
  | .bool i :: r, _, e => by
    simp only [boolsOf, Option.map_eq_some_iff] at e
    obtain ⟨ns, e1, rfl⟩ := e
    rw [boolsOf_eq e1]; rfl
  | .none :: _, _, e => by simp [boolsOf] at e
  | .int _ :: _, _, e => by simp [boolsOf] at e
  | .str _ :: _, _, e => by simp [boolsOf] at e
  | .list _ :: _, _, e => by simp [boolsOf] at e
  | .tuple _ :: _, _, e => by simp [boolsOf] at e
  | .dict _ :: _, _, e => by simp [boolsOf] at e
theorem boolsOf_map : ∀ ns : List Bool, boolsOf (ns.map PyData.bool) = some ns
  | [] => rfl
  | n :: r => by simp [boolsOf, boolsOf_map r]

section
variable {K : PySem.W.Frag} {G H : Hp}
theorem Args.one {t : T} {vs : List V} (r : Args K G H [t] vs) : ∃ v F, vs = [v] ∧ TR K G H t v F := by
  cases r with
  | cons h r => cases r; exact ⟨_, _, rfl, h⟩
theorem Args.two {t u : T} {vs : List V} (r : Args K G H [t, u] vs) : ∃ v w F F', vs = [v, w] ∧ TR K G H t v F ∧ TR K G H u w F' := by
  cases r with
  | cons h r => cases r with
    | cons h' r => cases r; exact ⟨_, _, _, _, rfl, h, h'⟩
end

def lenT : List T → Option T
  | [.p (.str z)] => if z.length ≤ LIM then some (.p (.int z.length)) else none
  | [.md kvs] => some (.p (.int kvs.length))
  | [.p (.dict kvs)] => some (.p (.int kvs.length))
  | [t] => t.kids.map fun ts => .p (.int ts.length)
  | _ => none
def rLenA (K : PySem.W.Frag) : List V → Hp → VK → Prop := fun xs H Q => (∃ x n, xs = [x] ∧ LenV K x H n ∧ Q (.int n) H) ∨ (∃ (a : Addr) (kvs : List (Key × V)), xs = [.ref a] ∧ H a = some (.dK kvs) ∧ Q (.int kvs.length) H)
theorem Rpk.length {K : PySem.W.Frag} {G : Hp} : ∀ {a : List (Key × V)} {b : List (D × D)}, Rpk K G a b → a.length = b.length
  | _, _, .nil => rfl
  | _, _, .cons _ r => by simp [r.length]
theorem KR.length {K : PySem.W.Frag} {G : Hp} : ∀ {a : List (Key × V)} {b : List (Key × D)}, KR K G a b → a.length = b.length
  | _, _, .nil => rfl
  | _, _, .cons _ r => by simp [r.length]
theorem call_lenA {X : Cx} : CallR X (.builtin "len") (rLenA X.K) := call_len.or (by
  intro pins s σ H xs us Q I r h
  obtain ⟨a, kvs, rfl, hd, q⟩ := h
  exact call_lenD pins s σ H _ us Q I r ⟨a, kvs, rfl, hd, q⟩)
section
variable {K : PySem.W.Frag}
theorem cm_len : CM K (rLenA K) lenT := by
  intro G H ts t xs e s r Q q
  unfold lenT at e
  split at e
  · split at e
    · rename_i z hz
      cases e
      obtain ⟨v, F, rfl, h⟩ := r.one
      cases h.pure
      exact .inl ⟨_, _, rfl, ⟨Nat.le_trans hz LIM_line, rfl⟩, q _ H G [] (Ext.refl s) (.p (.int _))⟩
    · cases e
  · cases e
    obtain ⟨v, F, rfl, h⟩ := r.one
    cases h with
    | md h k => exact .inr ⟨_, _, rfl, h, q _ H G [] (Ext.refl s) (.p (by rw [k.length]; exact .int _))⟩
  · cases e
    obtain ⟨v, F, rfl, h⟩ := r.one
    cases h.pure with
    | dct h9 k9 => exact .inr ⟨_, _, rfl, s _ _ h9, q _ H G [] (Ext.refl s) (.p (by rw [k9.length]; exact .int _))⟩
  · rw [Option.map_eq_some_iff] at e
    obtain ⟨ks, e1, rfl⟩ := e
    obtain ⟨v, F, rfl, h⟩ := r.one
    obtain ⟨a, vs, rfl, h1, p1⟩ := h.kids s e1
    refine .inl ⟨_, vs.length, rfl, ?_, q _ H G [] (Ext.refl s) (.p (by rw [p1.length]; exact .int _))⟩
    rcases h1 with h1 | h1
    · exact .inl ⟨vs, h1, rfl⟩
    · exact .inr ⟨vs, h1, rfl⟩
  · cases e
def sumT : List T → Option T
  | [t] => t.seq?.bind fun ds => (intsOf ds).map fun ns => .p (.int ns.sum)
  | _ => none
def allT : List T → Option T
  | [t] => t.seq?.bind fun ds => (boolsOf ds).map fun ns => .p (.bool (ns.all id))
  | _ => none
def anyT : List T → Option T
  | [t] => t.seq?.bind fun ds => (boolsOf ds).map fun ns => .p (.bool (ns.any id))
  | _ => none
theorem cm_all : CM K (rAll K) allT := by
  intro G H ts t xs e s r Q q
  unfold allT at e
  split at e
  · simp only [Option.bind_eq_some_iff, Option.map_eq_some_iff] at e
    obtain ⟨ds, e1, ns, e2, rfl⟩ := e
    obtain ⟨v, F, rfl, h⟩ := r.one
    obtain ⟨a, vs, rfl, h1, p1⟩ := h.seq s e1
    rw [boolsOf_eq e2] at p1
    rw [p1.bls] at h1
    exact ⟨a, ns, rfl, h1, q _ H G [] (Ext.refl s) (.p (.bl _))⟩
  · cases e
theorem cm_any : CM K (rAny K) anyT := by
  intro G H ts t xs e s r Q q
  unfold anyT at e
  split at e
  · simp only [Option.bind_eq_some_iff, Option.map_eq_some_iff] at e
    obtain ⟨ds, e1, ns, e2, rfl⟩ := e
    obtain ⟨v, F, rfl, h⟩ := r.one
    obtain ⟨a, vs, rfl, h1, p1⟩ := h.seq s e1
    rw [boolsOf_eq e2] at p1
    rw [p1.bls] at h1
    exact ⟨a, ns, rfl, h1, q _ H G [] (Ext.refl s) (.p (.bl _))⟩
  · cases e
def maxI : List Int → Option Int
  | [] => none
  | n :: r => some (r.foldl max n)
def minI : List Int → Option Int
  | [] => none
  | n :: r => some (r.foldl min n)
theorem foldl_min_mem : ∀ (r : List Int) (n : Int), r.foldl min n ∈ n :: r ∧ ∀ y ∈ n :: r, r.foldl min n ≤ y
  | [], n => ⟨by simp, fun y hy => by simp at hy; subst hy; exact Int.le_refl _⟩
  | k :: r, n => by
    obtain ⟨h1, h2⟩ := foldl_min_mem r (min n k)
    simp only [List.foldl_cons]
    refine ⟨?_, fun y hy => ?_⟩
    · rcases List.mem_cons.mp h1 with z | z
      · rw [z]
        rcases Int.le_total n k with h | h
        · rw [Int.min_eq_left h]; simp
        · rw [Int.min_eq_right h]; simp
      · exact List.mem_cons_of_mem _ (List.mem_cons_of_mem _ z)
    · have h3 := h2 (min n k) List.mem_cons_self
      rcases List.mem_cons.mp hy with z | z
      · subst z; exact Int.le_trans h3 (Int.min_le_left _ _)
      · rcases List.mem_cons.mp z with z | z
        · subst z; exact Int.le_trans h3 (Int.min_le_right _ _)
        · exact h2 y (List.mem_cons_of_mem _ z)
theorem minI_spec {ns : List Int} {m : Int} (e : minI ns = some m) : m ∈ ns ∧ ∀ y ∈ ns, m ≤ y := by
  cases ns with
  | nil => cases e
  | cons n r => cases e; exact foldl_min_mem r n
def maxT : List T → Option T
  | [t] => t.any?.bind fun ds => (intsOf ds).bind fun ns => (maxI ns).map fun m => .p (.int m)
  | [a, b] => a.int?.bind fun i => b.int?.map fun j => .p (.int (max i j))
  | _ => none
def minT : List T → Option T
  | [t] => t.any?.bind fun ds => (intsOf ds).bind fun ns => (minI ns).map fun m => .p (.int m)
  | [a, b] => a.int?.bind fun i => b.int?.map fun j => .p (.int (min i j))
  | _ => none
def rMinT (K : PySem.W.Frag) : List V → Hp → VK → Prop := fun vs H Q => ∃ (a : Addr) (ns : List Int) (m : Int), vs = [V.ref a] ∧ SqT K H a (ns.map V.int) ∧ minI ns = some m ∧ Q (.int m) H
theorem reads_ints {h : Heap} : ∀ {ns : List Int} {us : List Value}, Vals (ns.map V.int) us → ReadsAll h us (ns.map PyData.int) []
  | [], _, .nil => .nil
  | n :: r, _, .cons h1 h2 => by
    obtain ⟨t, rfl⟩ := h1
    exact .cons (.int n t) (reads_ints h2)
theorem alike_ints (ns : List Int) : PySem.W.AlikeAll (ns.map PyData.int) := by
  refine ⟨fun x hx y hy => ?_, fun x hx => ?_⟩
  · obtain ⟨i, _, rfl⟩ := List.mem_map.mp hx
    obtain ⟨j, _, rfl⟩ := List.mem_map.mp hy
    rfl
  · obtain ⟨i, _, rfl⟩ := List.mem_map.mp hx
    intro z; cases z
theorem depth_ints : ∀ ns : List Int, PyData.depthAll (ns.map PyData.int) = 0
  | [] => by simp [PyData.depthAll]
  | n :: r => by simp [PyData.depthAll, PyData.depth, depth_ints r]
section
variable {X : Cx}
theorem cr_minT (hc : X.calm = true) (hu : X.A.units + 64 < cLine) : CallR X (.builtin "min") (rMinT X.K) := by
  intro pins s σ H vs us Q I r h
  obtain ⟨a, ns, m, rfl, hs, e, q⟩ := h
  cases ns with
  | nil => cases e
  | cons n ns =>
    obtain ⟨its, rv, hl, _⟩ := I.tuple hs
    obtain ⟨u, rfl, hu1⟩ := vals1 r
    cases hu1
    have hd := depth_ints (n :: ns)
    refine PySem.W.min_tuple_data (x := .int n) (xs := ns.map PyData.int) (as := []) (I.ok.hd hc) hl (by simpa using reads_ints (h := s.heap) rv) (alike_ints (n :: ns)) (by
      have : PyData.depthAll (PyData.int n :: ns.map PyData.int) = 0 := hd
      rw [this]; omega) fun i v h' tk bs hi hr hk => ?_
    rw [PySem.W.minD_ints] at hr
    cases e
    cases hr
    exact ⟨.int _, H, I.kept hk, ⟨_, rfl⟩, q⟩
end
def rMinA (K : PySem.W.Frag) : List V → Hp → VK → Prop := fun xs H Q => (rMin K xs H Q ∨ rMinT K xs H Q) ∨ ∃ i j, xs = [.int i, .int j] ∧ Q (.int (if j < i then j else i)) H
theorem cr_minA {X : Cx} (hc : X.calm = true) (hu : X.A.units + 64 < cLine) : CallR X (.builtin "min") (rMinA X.K) := ((cr_min hc).or (cr_minT hc hu)).or (call_min2 hc)
theorem TR.anyI {G H : Hp} {t : T} {v : V} {F : List Addr} (r : TR K G H t v F) (s : Same G H) {ds : List D} {ns : List Int} (e : t.any? = some ds) (e2 : intsOf ds = some ns) : ∃ a, v = .ref a ∧ (SqL K H a (ns.map V.int) ∨ SqT K H a (ns.map V.int)) := by
  obtain ⟨a, vs, rfl, h1, p1⟩ := r.any s e
  rw [intsOf_eq e2] at p1
  rw [p1.ints] at h1
  exact ⟨a, rfl, h1⟩
theorem cm_min : CM K (rMinA K) minT := by
  intro G H ts t xs e s r Q q
  unfold minT at e
  split at e
  · simp only [Option.bind_eq_some_iff, Option.map_eq_some_iff] at e
    obtain ⟨ds, e1, ns, e2, m, e3, rfl⟩ := e
    obtain ⟨v, F, rfl, h⟩ := r.one
    obtain ⟨a, rfl, h1 | h1⟩ := h.anyI s e1 e2
    · obtain ⟨m1, m2⟩ := minI_spec e3
      refine .inl (.inl ⟨a, ns, rfl, h1, List.length_pos_of_mem m1, fun m' p1 p2 => ?_⟩)
      have : m' = m := Int.le_antisymm (p2 _ m1) (m2 _ p1)
      subst this
      exact q _ H G [] (Ext.refl s) (.p (.int _))
    · exact .inl (.inr ⟨a, ns, m, rfl, h1, e3, q _ H G [] (Ext.refl s) (.p (.int _))⟩)
  · simp only [Option.bind_eq_some_iff, Option.map_eq_some_iff] at e
    obtain ⟨i, e1, j, e2, rfl⟩ := e
    obtain ⟨v, w, F, F', rfl, h1, h2⟩ := r.two
    rw [h1.int e1, h2.int e2]
    refine .inr ⟨i, j, rfl, ?_⟩
    have : (if j < i then j else i) = min i j := by
      rw [Int.min_def]
      split <;> split <;> omega
    rw [this]
    exact q _ H G [] (Ext.refl s) (.p (.int _))
  · cases e
def absT : List T → Option T
  | [a] => a.int?.map fun i => .p (.int (if i < 0 then -i else i))
  | _ => none
def listT : List T → Option T
  | [a] => a.any?.bind fun ds => some (.p (.list ds))
  | _ => none
theorem cm_list : CM K (fun xs H Q => ∃ p ys, xs = [.ref p] ∧ (SqL K H p ys ∨ SqT K H p ys) ∧ ∀ l, H l = none → Q (.ref l) (upd H l (.lst ys))) listT := by
  intro G H ts t xs e s r Q q
  unfold listT at e
  split at e
  · simp only [Option.bind_eq_some_iff] at e
    obtain ⟨ds, e1, e2⟩ := e
    cases e2
    obtain ⟨v, F, rfl, h⟩ := r.one
    obtain ⟨a, vs, rfl, h1, p1⟩ := h.any s e1
    refine ⟨a, vs, rfl, h1, fun l nl => ?_⟩
    have x2 := Ext.new (o := .lst vs) s nl
    exact q _ _ _ [] x2 (.p (.lst upd_same (p1.mono x2.gg)))
  · cases e
def tupleT : List T → Option T
  | [a] => match a.seq? with
    | some ds => some (.p (.tuple ds))
    | none => a.ptup?.bind fun ds => some (.p (.tuple ds))
  | _ => none
theorem cm_tuple : CM K (fun xs H Q => ∃ p ys, xs = [.ref p] ∧ ((SqL K H p ys ∧ ∀ l, H l = none → Q (.ref l) (upd H l (.tup ys))) ∨ (SqT K H p ys ∧ Q (.ref p) H))) tupleT := by
  intro G H ts t xs e s r Q q
  unfold tupleT at e
  split at e
  · split at e
    · rename_i ds e1
      cases e
      obtain ⟨v, F, rfl, h⟩ := r.one
      obtain ⟨a, vs, rfl, h1, p1⟩ := h.seq s e1
      refine ⟨a, vs, rfl, .inl ⟨h1, fun l nl => ?_⟩⟩
      have x2 := Ext.new (o := .tup vs) s nl
      exact q _ _ _ [] x2 (.p (.tup (.inl (.inl upd_same)) (p1.mono x2.gg)))
    · simp only [Option.bind_eq_some_iff] at e
      obtain ⟨ds, e1, e2⟩ := e
      cases e2
      obtain ⟨v, F, rfl, h⟩ := r.one
      obtain ⟨a, vs, rfl, h1, p1⟩ := h.ptup e1
      exact ⟨a, vs, rfl, .inr ⟨Same.seqT s h1, q _ H G [] (Ext.refl s) (.p (.tup h1 p1))⟩⟩
  · cases e
def intT : List T → Option T
  | [.p (.int i)] => some (.p (.int i))
  | [.p (.bool k)] => some (.p (.int (if k then 1 else 0)))
  | [.p (.str z)] => (PySem.intText? z).bind fun n => if z.length ≤ 640 then some (.p (.int n)) else none
  | _ => none
def rIntA : List V → Hp → VK → Prop := fun xs H Q => ((∃ i, xs = [.int i] ∧ Q (.int i) H) ∨ ∃ k, xs = [.bl k] ∧ Q (.int (if k then 1 else 0)) H) ∨ ∃ a n, xs = [.str a] ∧ PySem.intText? a = some n ∧ a.length ≤ 640 ∧ Q (.int n) H
theorem call_intA {X : Cx} : CallR X (.type "int") rIntA := call_int1.or call_int_str
theorem cm_int : CM K rIntA intT := by
  intro G H ts t xs e s r Q q
  unfold intT at e
  split at e
  · cases e
    obtain ⟨v, F, rfl, h⟩ := r.one
    cases h.pure
    exact .inl (.inl ⟨_, rfl, q _ H G [] (Ext.refl s) (.p (.int _))⟩)
  · cases e
    obtain ⟨v, F, rfl, h⟩ := r.one
    cases h.pure
    exact .inl (.inr ⟨_, rfl, q _ H G [] (Ext.refl s) (.p (.int _))⟩)
  · rw [Option.bind_eq_some_iff] at e
    obtain ⟨n, e1, e2⟩ := e
    split at e2
    · rename_i hz
      cases e2
      obtain ⟨v, F, rfl, h⟩ := r.one
      cases h.pure
      exact .inr ⟨_, n, rfl, e1, hz, q _ H G [] (Ext.refl s) (.p (.int _))⟩
    · cases e2
  · cases e
def sortI (ns : List Int) : List Int := ns.mergeSort (fun a b => decide (a ≤ b))
theorem sortI_perm (ns : List Int) : (sortI ns).Perm ns := List.mergeSort_perm ns _
theorem sortI_pair (ns : List Int) : (sortI ns).Pairwise (· ≤ ·) := by
  have h := List.pairwise_mergeSort (le := fun a b : Int => decide (a ≤ b)) (fun a b c h1 h2 => by simp only [decide_eq_true_eq] at *; omega) (fun a b => by simp only [Bool.or_eq_true, decide_eq_true_eq]; omega) ns
  exact h.imp fun h => by simpa using h
def sortedT : List T → Option T
  | [t] => t.seq?.bind fun ds => (intsOf ds).map fun ns => .p (.list ((sortI ns).map PyData.int))
  | _ => none
theorem cm_sorted : CM K (rSortedI K) sortedT := by
  intro G H ts t xs e s r Q q
  unfold sortedT at e
  split at e
  · simp only [Option.bind_eq_some_iff, Option.map_eq_some_iff] at e
    obtain ⟨ds, e1, ns, e2, rfl⟩ := e
    obtain ⟨v, F, rfl, h⟩ := r.one
    obtain ⟨a, vs, rfl, h1, p1⟩ := h.seq s e1
    rw [intsOf_eq e2] at p1
    rw [p1.ints] at h1
    refine ⟨a, ns, rfl, h1, fun ns' p hp hs np => ?_⟩
    have : ns' = sortI ns := PySem.W.ksm_same (hp.trans (sortI_perm ns).symm) hs (sortI_pair ns)
    subst this
    have x2 := Ext.new (o := .lst ((sortI ns).map V.int)) s np
    exact q _ _ _ [] x2 (.p (.lst upd_same (Rps.of_ints _)))
  · cases e
end

def tyN : D → String
  | .none => "NoneType"
  | .bool _ => "bool"
  | .int _ => "int"
  | .str _ => "str"
  | .list _ => "list"
  | .tuple _ => "tuple"
  | .dict _ => "dict"
def isi (a b : String) : Bool := a == b || (a == "bool" && b == "int")
def isiT (n : String) : T → Option T := fun t => t.snap.map fun d => .p (.bool (isi (tyN d) n))
def mIsi (n : String) (m : EM) : EM := fun env => (m env).bind (isiT n)
def IsiOk (n : String) : Prop := ∀ a ∈ ["NoneType", "bool", "int", "str", "list", "tuple", "dict"], kitB a n = some (isi a n)
theorem isi_bool : IsiOk "bool" := by unfold IsiOk; decide +kernel
theorem tyN_mem (d : D) : tyN d ∈ ["NoneType", "bool", "int", "str", "list", "tuple", "dict"] := by cases d <;> simp [tyN]
theorem Rp.ty {K : PySem.W.Frag} {H : Hp} {v : V} {d : D} (r : Rp K H v d) : TyX K H v (.type (tyN d)) := by
  cases r with
  | non => exact .base .non
  | bl b => exact .base (.bl b)
  | int i => exact .base (.int i)
  | str x => exact .base (.str x)
  | lst h _ => exact .base (.lst h)
  | tup h _ =>
    rcases h with (h | ⟨o, h⟩) | ⟨o, _, _, h, hc, _⟩
    · exact .base (.tup h)
    · exact .fTuple h
    · exact .kTuple h hc
  | dct h _ => exact .base (.dK h)
theorem pm_isi {X : Cx} {e : Expr} {me : EM} {y : Str} {n : String} {p p2 pos : Pos} (hg : Gl X "isinstance") (hm : X.mg "isinstance" = none) (hg2 : Gl X y) (hm2 : X.mg y = none) (hv : bootBuiltins y = some (.type n)) (ok : IsiOk n) (he : PM X e me)
    (hn : y ≠ "__name__" := by decide) (hdb : (y == ("__debug__" : Str)) = false := by decide) (hs : starEach [e, .Name y p2] X.env = (false, eval e X.env) :: starEach [.Name y p2] X.env := by rfl) :
    PM X (.Call (.Name "isinstance" p) [e, .Name y p2] [] pos) (mIsi n me) := by
  refine PE_imp (pe_callB call_isi hg hm boot_isinstance (pa_cons he (pa_cons (pe_bltn (v := .ty n) hg2 hm2 hv rfl hn hdb) pa_nil rfl) hs) (by decide) (by decide) hs rfl) fun σ H Q h => ?_
  obtain ⟨G, env, F, rel, t, e1, q⟩ := h
  simp only [mIsi, Option.bind_eq_some_iff] at e1
  obtain ⟨t1, e2, e3⟩ := e1
  simp only [isiT, Option.map_eq_some_iff] at e3
  obtain ⟨d, e4, rfl⟩ := e3
  refine ⟨G, env, F, rel, t1, e2, fun x H1 G1 F1 x1 r1 => ?_⟩
  exact ⟨x, .ty n, .type (tyN d), .type n, isi (tyN d) n, rfl, .ty n, (r1.live x1.gh e4).ty, kit_ty (ok _ (tyN_mem d)), q _ H1 G1 [] x1 (.p (.bl _))⟩

def cutL {α : Type} (xs : List α) (lo hi : Option Int) : List α := (xs.drop (HT.sIx xs.length 0 lo)).take (HT.sIx xs.length xs.length hi - HT.sIx xs.length 0 lo)
abbrev OM := En → Option (Option Int)
def oNone : OM := fun _ => some none
def oSome (m : EM) : OM := fun env => (m env).bind fun t => t.int?.map some
def sliceT (t : T) (lo hi : Option Int) : Option T := match t.seq? with
  | some ds => some (.p (.list (cutL ds lo hi)))
  | none => match t.ptup? with
    | some ds => some (.p (.tuple (cutL ds lo hi)))
    | none => match t with
      | .p (.str z) => if z.length ≤ LIM then some (.p (.str (cutS z lo hi))) else none
      | _ => none
def mSlice (m : EM) (lo hi : OM) : EM := fun env => (m env).bind fun t => (lo env).bind fun a => (hi env).bind fun b => sliceT t a b
theorem Rps.cut {K : PySem.W.Frag} {G : Hp} {vs : List V} {ds : List D} (r : Rps K G vs ds) (lo hi : Option Int) : Rps K G (cutV vs lo hi) (cutL ds lo hi) := by
  unfold cutV cutL
  rw [r.length]
  exact (r.drop _).take _
def rSlAll (K : PySem.W.Frag) : V → Option Int → Option Int → Hp → VK → Prop := fun x lo hi H Q => (rSlL K x lo hi H Q ∨ rSlA K x lo hi H Q) ∨ rSlS x lo hi H Q
theorem sl_all {X : Cx} : SlR X (rSlAll X.K) := (sl_list.or sl_tupA).or sl_str
def tOM (K : PySem.W.Frag) (m : OM) : TO := fun σ H Q => ∃ G env F, Rel K G H env σ F ∧ ∃ o, m env = some o ∧ ∀ H' G', Ext G H G' H' → Q o H'
theorem PO_imp {X : Cx} {e : Option Expr} {t t' : TO} (h : PO X e t) (i : ∀ σ H Q, t' σ H Q → t σ H Q) : PO X e t' := ⟨fun pins s σ H Q I q => h.run pins s σ H Q I (i σ H Q q)⟩
abbrev POM (X : Cx) (e : Option Expr) (m : OM) : Prop := PO X e (tOM X.K m)
section
variable {X : Cx} {e : Expr} {me : EM} {lo hi : Option Expr} {ml mh : OM} {pos p2 : Pos}
theorem pom_none : POM X none oNone := PO_imp po_none fun σ H Q h => by
  obtain ⟨G, env, F, rel, o, e1, q⟩ := h
  cases e1
  exact q H G (Ext.refl rel.sm)
theorem pom_some (h : PM X e me) : POM X (some e) (oSome me) := PO_imp (po_some h) fun σ H Q h => by
  obtain ⟨G, env, F, rel, o, e1, q⟩ := h
  simp only [oSome, Option.bind_eq_some_iff, Option.map_eq_some_iff] at e1
  obtain ⟨t, e2, i, e3, rfl⟩ := e1
  exact ⟨G, env, F, rel, t, e2, fun v H' G' F' x r => ⟨i, r.int e3, q H' G' x⟩⟩
theorem pm_slice (he : PM X e me) (hl : POM X lo ml) (hh : POM X hi mh) : PM X (.Subscript e (.Slice lo hi none p2) pos) (mSlice me ml mh) := by
  refine PE_imp (pe_slice sl_all he hl hh) fun σ H Q h => ?_
  obtain ⟨G, env, F, rel, t, e1, q⟩ := h
  simp only [mSlice, Option.bind_eq_some_iff] at e1
  obtain ⟨t1, e2, a, e3, b, e4, e5⟩ := e1
  refine ⟨G, env, F, rel, t1, e2, fun x H1 G1 F1 x1 r1 => ⟨G1, env, F, rel.ext x1, a, e3, fun H2 G2 x2 => ⟨G2, env, F, (rel.ext x1).ext x2, b, e4, fun H3 G3 x3 => ?_⟩⟩⟩
  have x23 := x2.trans x3
  have x13 := x1.trans x23
  have r3 := r1.keep x23.gg (Keep.of x23.hh)
  unfold sliceT at e5
  split at e5
  · rename_i ds e6
    cases e5
    obtain ⟨p, vs, rfl, h1, p1⟩ := r3.seq x3.gh e6
    refine .inl (.inl ⟨p, vs, rfl, h1, fun l nl => ?_⟩)
    have x4 := Ext.new (o := .lst (cutV vs a b)) x3.gh nl
    exact q _ _ _ [] (x13.trans x4) (.p (.lst upd_same ((p1.cut a b).mono x4.gg)))
  · split at e5
    · rename_i ds e6
      cases e5
      obtain ⟨p, vs, rfl, h1, p1⟩ := r3.ptup e6
      refine .inl (.inr ⟨p, vs, rfl, Same.seqT x3.gh h1, fun z => ?_, fun _ l nl => ?_⟩)
      · have e7 : cutL ds a b = ds := by
          unfold cutL
          rw [← p1.length, z.1, z.2, p1.length]
          simp
        rw [e7] at q
        exact q _ H3 G3 [] x13 (.p (.tup h1 p1))
      · have x4 := Ext.new (o := .tup (cutV vs a b)) x3.gh nl
        exact q _ _ _ [] (x13.trans x4) (.p (.tup (.inl (.inl upd_same)) ((p1.cut a b).mono x4.gg)))
    · split at e5
      · split at e5
        · rename_i hz
          cases e5
          cases r3.pure
          exact .inr ⟨_, rfl, Nat.le_trans hz LIM_line, q _ H3 G3 [] x13 (.p (.str _))⟩
        · cases e5
      · cases e5
/-- -1 -/
def mNeg (m : EM) : EM := fun env => (m env).bind fun t => t.int?.map fun i => .p (.int (-i))
/-- list(range(n)), list(range(a, b)) -/
def rangeD (lo hi : Int) : List D := (List.range (hi - lo).toNat).map fun (k : Nat) => PyData.int (lo + (k : Int))
theorem Rps.rng {K : PySem.W.Frag} {G : Hp} (lo hi : Int) : Rps K G (rgV lo hi) (rangeD lo hi) := by
  unfold rgV rangeD
  generalize List.range (hi - lo).toNat = l
  induction l with
  | nil => exact .nil
  | cons k r ih => exact .cons (.int _) ih
def mListR1 (m : EM) : EM := fun env => (m env).bind fun t => t.int?.bind fun j => if j ≤ 1000000 ∧ -1000000 ≤ j then some (.p (.list (rangeD 0 j))) else none
theorem pm_listR1 {p p3 : Pos} (hc : X.calm = true) (hg : Gl X "list") (hm : X.mg "list" = none) (hg2 : Gl X "range") (hm2 : X.mg "range" = none) (he : PM X e me) (na : starEach [e] X.env = (false, eval e X.env) :: starEach [] X.env := by rfl) :
    PM X (.Call (.Name "list" p) [.Call (.Name "range" p2) [e] [] p3] [] pos) (mListR1 me) := by
  refine PE_imp (pe_listRg hc hg hm (prg_1 hg2 hm2 he na)) fun σ H Q h => ?_
  obtain ⟨G, env, F, rel, t, e1, q⟩ := h
  simp only [mListR1, Option.bind_eq_some_iff] at e1
  obtain ⟨t1, e2, j, e3, e4⟩ := e1
  split at e4
  · rename_i hz
    cases e4
    refine ⟨G, env, F, rel, t1, e2, fun x H1 G1 F1 x1 r1 => ?_⟩
    refine ⟨j, r1.int e3, ⟨by omega, by omega, by omega, by omega, by omega⟩, fun l nl => ?_⟩
    have x4 := Ext.new (o := .lst (rgV 0 j)) x1.gh nl
    exact q _ _ _ [] (x1.trans x4) (.p (.lst upd_same (Rps.rng 0 j)))
  · cases e4
end
end M
namespace M
open PySem PySem.Spec PyProof.Rows L2

/-- σ' is σ but for the slots js -/
def Only (js : List Nat) (σ σ' : L2.St) : Prop := σ'.length = σ.length ∧ ∀ i, i ∉ js → σ'[i]? = σ[i]?
theorem Only.refl (js : List Nat) (σ : L2.St) : Only js σ σ := ⟨rfl, fun _ _ => rfl⟩
theorem Only.trans {js : List Nat} {a b c : L2.St} (x : Only js a b) (y : Only js b c) : Only js a c := ⟨y.1.trans x.1, fun i h => (y.2 i h).trans (x.2 i h)⟩
theorem Only.mono {js ks : List Nat} {a b : L2.St} (x : Only js a b) (h : ∀ j ∈ js, j ∈ ks) : Only ks a b := ⟨x.1, fun i hi => x.2 i fun z => hi (h i z)⟩
theorem Only.set {σ : L2.St} {i : Nat} {o : Option V} : Only [i] σ (σ.set i o) := ⟨List.length_set, fun j h => by
  rw [List.getElem?_set_ne]
  intro z
  exact h (by simp [z])⟩
theorem wipe_get (σ : L2.St) : ∀ (vs : List Nat) (i : Nat), (wipe σ vs)[i]? = if i ∈ vs then (if i < σ.length then some none else none) else σ[i]?
  | [], i => by simp [wipe]
  | v :: vs, i => by
    unfold wipe
    by_cases h : v = i
    · subst h
      rw [List.getElem?_set_self']
      rw [wipe_get σ vs v]
      simp only [List.mem_cons, true_or, if_true]
      by_cases hv : v < σ.length
      · rw [if_pos hv]
        split
        · rfl
        · rw [List.getElem?_eq_getElem hv]; rfl
      · rw [if_neg hv]
        split
        · rfl
        · rw [List.getElem?_eq_none (by omega)]; rfl
    · rw [List.getElem?_set_ne h, wipe_get σ vs i]
      have : (i ∈ v :: vs) ↔ i ∈ vs := by
        simp only [List.mem_cons]
        constructor
        · intro z
          rcases z with z | z
          · exact absurd z.symm h
          · exact z
        · exact .inr
      simp only [this]
theorem Only.wipe {js vs : List Nat} {a b : L2.St} (x : Only js a b) (h : ∀ j ∈ js, j ∈ vs) : L2.wipe b vs = L2.wipe a vs := by
  apply List.ext_getElem?
  intro i
  rw [wipe_get, wipe_get, x.1]
  by_cases hi : i ∈ vs
  · rw [if_pos hi, if_pos hi]
  · rw [if_neg hi, if_neg hi]
    exact x.2 i fun z => hi (h i z)
def wipeE (env : En) : List Nat → En
  | [] => env
  | v :: vs => (wipeE env vs).set v none
theorem ES.wipe {K : PySem.W.Frag} {G H : Hp} {env : En} {σ : L2.St} {F : List Addr} (r : ES K G H env σ F) : ∀ vs : List Nat, ∃ F', ES K G H (wipeE env vs) (L2.wipe σ vs) F' ∧ F'.Sublist F
  | [] => ⟨F, r, List.Sublist.refl _⟩
  | v :: vs => by
    obtain ⟨F1, h1, h2⟩ := ES.wipe r vs
    obtain ⟨F2, h3, h4⟩ := ES.drop v none h1
    exact ⟨F2, h3, h4.trans h2⟩
theorem Rel.wipe {K : PySem.W.Frag} {G H : Hp} {env : En} {σ : L2.St} {F : List Addr} (r : Rel K G H env σ F) (vs : List Nat) : ∃ F', Rel K G H (wipeE env vs) (L2.wipe σ vs) F' := by
  obtain ⟨F', h1, h2⟩ := r.es.wipe vs
  exact ⟨F', h1, r.nd.sublist h2, fun a ha => r.fr a (h2.subset ha), r.sm⟩
/-- a pure value is put into a slot -/
theorem Rel.putp {K : PySem.W.Frag} {G H : Hp} {env : En} {σ : L2.St} {F : List Addr} (r : Rel K G H env σ F) (i : Nat) {v : V} {d : D} (h : Rp K G v d) : ∃ F', Rel K G H (env.set i (some (.p d))) (σ.set i (some v)) F' ∧ ∀ a ∈ F', a ∈ F := by
  obtain ⟨F', h1, h2, h3⟩ := ES.put (TR.p (H := H) h) i r.es
  have h4 : ∀ a ∈ F', a ∈ F := fun a ha => (h2 a ha).elim (fun z => nomatch z) id
  exact ⟨F', ⟨h1, h3 r.nd .nil (fun _ z => nomatch z), fun a ha => r.fr a (h4 a ha), r.sm⟩, h4⟩

def gM (K : PySem.W.Frag) (js : List Nat) (g : D → En → Option En) : TG := fun v σ H Q => ∃ G env F d, Rel K G H env σ F ∧ Rp K G v d ∧ ∃ env', g d env = some env' ∧ ∀ σ' F', Rel K G H env' σ' F' → (∀ a ∈ F', a ∈ F) → Only js σ σ' → Q σ' H
abbrev GM (X : Cx) (tg : Expr) (js : List Nat) (g : D → En → Option En) : Prop := PG X tg (gM X.K js g)
def gsM (K : PySem.W.Frag) (js : List Nat) (g : List D → En → Option En) : TGs := fun vs σ H Q => ∃ G env F ds, Rel K G H env σ F ∧ Rps K G vs ds ∧ ∃ env', g ds env = some env' ∧ ∀ σ' F', Rel K G H env' σ' F' → (∀ a ∈ F', a ∈ F) → Only js σ σ' → Q σ' H
abbrev GsM (X : Cx) (tg : List Expr) (js : List Nat) (g : List D → En → Option En) : Prop := PGs X tg (gsM X.K js g)
theorem PG_imp {X : Cx} {e : Expr} {t t' : TG} (h : PG X e t) (i : ∀ v σ H Q, t' v σ H Q → t v σ H Q) : PG X e t' := ⟨fun pins s σ H v u Q I r q => h.run pins s σ H v u Q I r (i v σ H Q q)⟩
theorem PGs_imp {X : Cx} {e : List Expr} {t t' : TGs} (h : PGs X e t) (i : ∀ v σ H Q, t' v σ H Q → t v σ H Q) : PGs X e t' := ⟨fun pins s σ H v u Q I r q => h.run pins s σ H v u Q I r (i v σ H Q q)⟩
def gNm (i : Nat) : D → En → Option En := fun d env => some (env.set i (some (.p d)))
def gNl : List D → En → Option En
  | [], env => some env
  | _ :: _, _ => none
def gCn (g : D → En → Option En) (gs : List D → En → Option En) : List D → En → Option En
  | [], _ => none
  | d :: r, env => (g d env).bind fun e => gs r e
def gTp (gs : List D → En → Option En) : D → En → Option En
  | .tuple ds, env => gs ds env
  | _, _ => none
section
variable {X : Cx} {pos : Pos}
theorem gm_name {i : Nat} {x : Str} (hN : X.N.Nodup) (hi : X.N[i]? = some x := by rfl) (hx : Loc X.env.scope x := by first | exact Or.inl rfl | exact Or.inr rfl) (hf : X.fn x = true ∨ X.env.scope.names.lookup x = some .local := by first | exact .inl rfl | exact .inr rfl | assumption) : GM X (.Name x pos) [i] (gNm i) := by
  refine PG_imp (pg_name (i := i) hN hi hx hf) fun v σ H Q h => ?_
  obtain ⟨G, env, F, d, rel, r, env', e, q⟩ := h
  cases e
  obtain ⟨F', h1, h2⟩ := rel.putp i r
  exact q _ F' h1 h2 Only.set
theorem gsm_nil : GsM X [] [] gNl := by
  refine PGs_imp pgs_nil fun vs σ H Q h => ?_
  obtain ⟨G, env, F, ds, rel, r, env', e, q⟩ := h
  cases r with
  | nil => cases e; exact ⟨rfl, q _ F rel (fun _ z => z) (Only.refl _ _)⟩
  | cons _ _ => cases e
theorem gsm_cons {e : Expr} {es : List Expr} {js ks : List Nat} {g : D → En → Option En} {gs : List D → En → Option En} (h1 : GM X e js g) (h2 : GsM X es ks gs)
    (hs : (assignEach (e :: es) X.env).map (·.2) = assign e X.env :: (assignEach es X.env).map (·.2) := by rfl) : GsM X (e :: es) (js ++ ks) (gCn g gs) := by
  refine PGs_imp (pgs_cons h1 h2 hs) fun vs σ H Q h => ?_
  obtain ⟨G, env, F, ds, rel, r, env', e, q⟩ := h
  cases r with
  | nil => cases e
  | cons r1 r2 =>
    simp only [gCn, Option.bind_eq_some_iff] at e
    obtain ⟨e1, e2, e3⟩ := e
    refine ⟨_, _, rfl, G, env, F, _, rel, r1, e1, e2, fun σ1 F1 rel1 s1 o1 => ?_⟩
    exact ⟨G, e1, F1, _, rel1, r2, env', e3, fun σ2 F2 rel2 s2 o2 => q σ2 F2 rel2 (fun a ha => s1 a (s2 a ha)) ((o1.mono fun j hj => List.mem_append_left _ hj).trans (o2.mono fun j hj => List.mem_append_right _ hj))⟩
def GLen (gs : List D → En → Option En) (n : Nat) : Prop := ∀ ds env env', gs ds env = some env' → ds.length = n
theorem gl_nil : GLen gNl 0 := fun ds env env' h => by
  cases ds with
  | nil => rfl
  | cons _ _ => cases h
theorem gl_cons {g : D → En → Option En} {gs : List D → En → Option En} {n : Nat} (h : GLen gs n) : GLen (gCn g gs) (n + 1) := fun ds env env' e => by
  cases ds with
  | nil => cases e
  | cons d r =>
    simp only [gCn, Option.bind_eq_some_iff] at e
    obtain ⟨_, _, e⟩ := e
    rw [List.length_cons, h _ _ _ e]
theorem gm_tup {es : List Expr} {k n : Nat} {js : List Nat} {gs : List D → En → Option En} (hc : X.calm = true) (h : GsM X es js gs) (hl : GLen gs n) (hn : (assignEach es X.env).length = n := by rfl) (hst : (assignEach es X.env).findIdx? (·.1) = none := by rfl) : GM X (.Tuple es k pos) js (gTp gs) := by
  refine PG_imp (pg_tup hc h hn hst) fun v σ H Q h => ?_
  obtain ⟨G, env, F, d, rel, r, env', e, q⟩ := h
  cases r with
  | tup h1 h2 =>
    rename_i a xs ds
    exact ⟨a, xs, rfl, Same.seqT rel.sm h1, by rw [h2.length]; exact hl ds env env' e, G, env, F, ds, rel, h2, env', e, q⟩
  | _ => cases e
end

/-- .. its items frozen in G0 -/
structure Wk2 (K : PySem.W.Frag) (B G0 : Hp) (J : It) (ds : List D) : Prop where
  go : ∀ i H, Same B H → i < ds.length → J.go i H
  stop : ∀ i H, Same B H → ds.length ≤ i → J.stop i H
  yld : ∀ i H x H' G d, Same B H → Same G0 G → Same G H → J.yld i H x H' → ds[i]? = some d → ∃ G', Ext G H G' H' ∧ Rp K G' x d
/-- fz: the source is frozen -/
def iM (K : PySem.W.Frag) (fz : Bool) (mi : En → Option (List D)) : TI := fun σ H R => ∃ G env F, Rel K G H env σ F ∧ ∃ ds, mi env = some ds ∧ ∀ J H' G', Ext G H G' H' → Wk2 K (if fz then G' else H') G' J ds → R J H'
abbrev PIM (X : Cx) (tg iter : Expr) (fz : Bool) (mi : En → Option (List D)) : Prop := PI X tg iter (iM X.K fz mi)
theorem PI_imp {X : Cx} {tg e : Expr} {t t' : TI} (h : PI X tg e t) (i : ∀ σ H Q, t' σ H Q → t σ H Q) : PI X tg e t' := ⟨fun pins s σ H Q I q => h.run pins s σ H Q I (i σ H Q q)⟩
theorem PI_or {X : Cx} {tg e : Expr} {t t' : TI} (h : PI X tg e t) (h' : PI X tg e t') : PI X tg e (fun σ H R => t σ H R ∨ t' σ H R) := ⟨fun pins s σ H Q I q => by
  rcases q with q | q
  · exact h.run pins s σ H Q I q
  · exact h'.run pins s σ H Q I q⟩
section
variable {K : PySem.W.Frag} {B G0 : Hp}
theorem wk_list {a : Addr} {vs : List V} {ds : List D} (h : SqL K B a vs) (r : Rps K G0 vs ds) : Wk2 K B G0 (Itl K a) ds where
  go := fun i H s hi => by
    have hi' : i < vs.length := by rw [r.length]; exact hi
    exact ⟨vs, vs[i], s.seq h, by simp [hi']⟩
  stop := fun i H s hi => ⟨vs, s.seq h, by rw [r.length]; exact hi⟩
  yld := fun i H x H' G d s s0 sg y e => by
    obtain ⟨rfl, y⟩ := y
    obtain ⟨v, h1, h2⟩ := r.get e
    rw [y vs (s.seq h)] at h1
    cases h1
    exact ⟨G, Ext.refl sg, h2.mono s0⟩
theorem wk_tup {a : Addr} {vs : List V} {ds : List D} (h : SqT K B a vs) (r : Rps K G0 vs ds) : Wk2 K B G0 (Itt K a) ds where
  go := fun i H s hi => by
    have hi' : i < vs.length := by rw [r.length]; exact hi
    exact ⟨vs, vs[i], Same.seqT s h, by simp [hi']⟩
  stop := fun i H s hi => ⟨vs, Same.seqT s h, by rw [r.length]; exact hi⟩
  yld := fun i H x H' G d s s0 sg y e => by
    obtain ⟨rfl, y⟩ := y
    obtain ⟨v, h1, h2⟩ := r.get e
    rw [y vs (Same.seqT s h)] at h1
    cases h1
    exact ⟨G, Ext.refl sg, h2.mono s0⟩
theorem wk_range {lo : Int} {n : Nat} : Wk2 K B G0 (Itr lo n) ((List.range n).map fun (k : Nat) => PyData.int (lo + (k : Int))) where
  go := fun i H s hi => by
    have : i < n := by simpa using hi
    exact this
  stop := fun i H s hi => by
    have : n ≤ i := by simpa using hi
    exact this
  yld := fun i H x H' G d s s0 sg y e => by
    obtain ⟨rfl, rfl⟩ := y
    rw [List.getElem?_map] at e
    rw [Option.map_eq_some_iff] at e
    obtain ⟨k, e1, rfl⟩ := e
    have : k = i := by
      rw [List.getElem?_eq_some_iff] at e1
      obtain ⟨_, e2⟩ := e1
      simpa using e2.symm
    subst this
    exact ⟨G, Ext.refl sg, .int _⟩
end
section
variable {X : Cx} {tg : Expr} {e e2 : Expr} {me me2 : EM} {pos p : Pos}
/-- for x in e: a list, a tuple, the script; frozen -/
def T.fz? : T → Option (List D)
  | .p (.list ds) => some ds
  | .p (.tuple ds) => some ds
  | .sc ns => some (ns.map PyData.int)
  | _ => none
/-- a frozen list -/
def T.fzl? : T → Option (List D)
  | .p (.list ds) => some ds
  | .sc ns => some (ns.map PyData.int)
  | _ => none
theorem TR.fzl {K : PySem.W.Frag} {G H : Hp} {t : T} {v : V} {F : List Addr} (r : TR K G H t v F) {ds : List D} (e : t.fzl? = some ds) : ∃ a vs, v = .ref a ∧ SqL K G a vs ∧ Rps K G vs ds := by
  cases r with
  | p h =>
    cases h with
    | lst h r => simp [T.fzl?] at e; subst e; exact ⟨_, _, rfl, .inl (.inl h), r⟩
    | _ => simp [T.fzl?] at e
  | sc h => simp only [T.fzl?, Option.some.injEq] at e; subst e; exact ⟨_, _, rfl, h, Rps.of_ints _⟩
  | _ => simp [T.fzl?] at e
def iSeq (me : EM) : En → Option (List D) := fun env => (me env).bind T.fz?
def iSeqB (me : EM) : En → Option (List D) := fun env => (me env).bind T.any?
theorem pim_seq (he : PM X e me) : PIM X tg e true (iSeq me) := by
  refine PI_imp (PI_or (pi_list he) (pi_tup he)) fun σ H R h => ?_
  obtain ⟨G, env, F, rel, ds, e1, q⟩ := h
  simp only [iSeq, Option.bind_eq_some_iff] at e1
  obtain ⟨t, e2, e3⟩ := e1
  cases t with
  | p d =>
    cases d with
    | list ds' =>
      simp only [T.fz?, Option.some.injEq] at e3; subst e3
      refine .inl ⟨G, env, F, rel, _, e2, fun v H' G' F' x r => ?_⟩
      cases r.pure with
      | lst h1 h2 => exact ⟨_, rfl, ⟨_, .inl (.inl (x.gh _ _ h1))⟩, q _ H' G' x (wk_list (.inl (.inl h1)) h2)⟩
    | tuple ds' =>
      simp only [T.fz?, Option.some.injEq] at e3; subst e3
      refine .inr ⟨G, env, F, rel, _, e2, fun v H' G' F' x r => ?_⟩
      cases r.pure with
      | tup h1 h2 => exact ⟨_, rfl, ⟨_, Same.seqT x.gh h1⟩, q _ H' G' x (wk_tup h1 h2)⟩
    | _ => simp [T.fz?] at e3
  | sc ns =>
    simp only [T.fz?, Option.some.injEq] at e3; subst e3
    refine .inl ⟨G, env, F, rel, _, e2, fun v H' G' F' x r => ?_⟩
    cases r with
    | sc h1 => exact ⟨_, rfl, ⟨_, x.gh.seq h1⟩, q _ H' G' x (wk_list h1 (Rps.of_ints ns))⟩
  | _ => simp [T.fz?] at e3
/-- .. borrowed: a comprehension's -/
theorem pim_seqB (he : PM X e me) : PIM X tg e false (iSeqB me) := by
  refine PI_imp (PI_or (pi_list he) (pi_tup he)) fun σ H R h => ?_
  obtain ⟨G, env, F, rel, ds, e1, q⟩ := h
  simp only [iSeqB, Option.bind_eq_some_iff] at e1
  obtain ⟨t, e2, e3⟩ := e1
  unfold T.any? at e3
  split at e3
  · rename_i e4
    cases e3
    refine .inl ⟨G, env, F, rel, _, e2, fun v H' G' F' x r => ?_⟩
    obtain ⟨a, vs, rfl, h1, p1⟩ := r.seq x.gh e4
    exact ⟨_, rfl, ⟨_, h1⟩, q _ H' G' x (wk_list h1 p1)⟩
  · refine .inr ⟨G, env, F, rel, _, e2, fun v H' G' F' x r => ?_⟩
    obtain ⟨a, vs, rfl, h1, p1⟩ := r.tup x.gh e3
    exact ⟨_, rfl, ⟨_, h1⟩, q _ H' G' x (wk_tup h1 p1)⟩
def smallI (j : Int) : Prop := -1000000 ≤ j ∧ j ≤ 1000000
noncomputable instance (j : Int) : Decidable (smallI j) := Classical.propDecidable _
noncomputable def iRng1 (me : EM) : En → Option (List D) := fun env => (me env).bind fun t => t.int?.bind fun j => if smallI j then some (rangeD 0 j) else none
noncomputable def iRng2 (me me2 : EM) : En → Option (List D) := fun env => (me env).bind fun t => t.int?.bind fun i => (me2 env).bind fun u => u.int?.bind fun j => if smallI i ∧ smallI j then some (rangeD i j) else none
theorem pim_range1 {fz : Bool} (hg : Gl X "range") (hm : X.mg "range" = none) (he : PM X e me) (hs : starEach [e] X.env = [(false, eval e X.env)] := by rfl) : PIM X tg (.Call (.Name "range" p) [e] [] pos) fz (M.iRng1 me) := by
  refine PI_imp (pi_range1 hg hm (pam_cons he pam_nil hs) hs) fun σ H R h => ?_
  obtain ⟨G, env, F, rel, ds, e1, q⟩ := h
  simp only [M.iRng1, Option.bind_eq_some_iff] at e1
  obtain ⟨t, e2, j, e3, e4⟩ := e1
  split at e4
  · rename_i hz
    cases e4
    refine ⟨G, env, F, rel, [t], by simp [aCons, aNil, e2], fun vs H' G' x r => ?_⟩
    obtain ⟨v, F', rfl, h⟩ := r.one
    rw [h.int e3]
    unfold smallI at hz
    refine ⟨j, rfl, by omega, by omega, q _ H' G' x ?_⟩
    have := wk_range (K := X.K) (B := if fz then G' else H') (G0 := G') (lo := 0) (n := j.toNat)
    unfold rangeD
    rw [Int.sub_zero]
    exact this
  · cases e4
/-- zip of two -/
def zipD : List D → List D → List D
  | a :: r, b :: t => .tuple [a, b] :: zipD r t
  | _, _ => []
theorem zipD_get : ∀ {xs ys : List D} {i : Nat} {d : D}, (zipD xs ys)[i]? = some d → ∃ a b, xs[i]? = some a ∧ ys[i]? = some b ∧ d = .tuple [a, b]
  | [], _, _, _, e => by simp [zipD] at e
  | _ :: _, [], _, _, e => by simp [zipD] at e
  | a :: r, b :: t, 0, d, e => by simp [zipD] at e; exact ⟨a, b, rfl, rfl, e.symm⟩
  | a :: r, b :: t, i + 1, d, e => by
    obtain ⟨x, y, h1, h2, h3⟩ := zipD_get (xs := r) (ys := t) (i := i) (d := d) (by simpa [zipD] using e)
    exact ⟨x, y, by simpa using h1, by simpa using h2, h3⟩
theorem zipD_length : ∀ (xs ys : List D), (zipD xs ys).length = min xs.length ys.length
  | [], _ => by simp [zipD]
  | _ :: _, [] => by simp [zipD]
  | a :: r, b :: t => by simp [zipD, zipD_length r t]
def iZp (me me2 : EM) : En → Option (List D) := fun env => (me env).bind fun t => (me2 env).bind fun u => match t.fzl?, u.fzl? with
  | some xs, some ys => some (zipD xs ys)
  | _, _ => match t.ptup?, u.ptup? with
    | some xs, some ys => some (zipD xs ys)
    | _, _ => none
theorem wk_zip {K : PySem.W.Frag} {B G0 : Hp} {a b : Addr} {vs ws : List V} {xs ys : List D} (h1 : SqL K B a vs) (h2 : SqL K B b ws) (r1 : Rps K G0 vs xs) (r2 : Rps K G0 ws ys) : Wk2 K B G0 (Itz K a b) (zipD xs ys) where
  go := fun i H s hi => by
    rw [zipD_length] at hi
    have l1 := r1.length
    have l2 := r2.length
    exact ⟨vs, ws, vs[i], ws[i], s.seq h1, s.seq h2, by simp, by simp⟩
  stop := fun i H s hi => by
    rw [zipD_length] at hi
    have l1 := r1.length
    have l2 := r2.length
    exact ⟨vs, ws, s.seq h1, s.seq h2, by omega⟩
  yld := fun i H x H' G d s s0 sg y e => by
    obtain ⟨T, u, w, rfl, nT, rfl, y1, y2⟩ := y
    obtain ⟨d1, d2, e1, e2, rfl⟩ := zipD_get e
    obtain ⟨v1, g1, p1⟩ := r1.get e1
    obtain ⟨v2, g2, p2⟩ := r2.get e2
    rw [y1 vs (s.seq h1)] at g1
    rw [y2 ws (s.seq h2)] at g2
    cases g1
    cases g2
    have x2 := Ext.new (o := .tup [u, w]) sg nT
    exact ⟨_, x2, .tup (.inl (.inl upd_same)) (.cons ((p1.mono s0).mono x2.gg) (.cons ((p2.mono s0).mono x2.gg) .nil))⟩
theorem wk_zipT {K : PySem.W.Frag} {B G0 : Hp} {a b : Addr} {vs ws : List V} {xs ys : List D} (h1 : SqT K B a vs) (h2 : SqT K B b ws) (r1 : Rps K G0 vs xs) (r2 : Rps K G0 ws ys) : Wk2 K B G0 (RZ.ItzT K a b) (zipD xs ys) where
  go := fun i H s hi => by
    rw [zipD_length] at hi
    have l1 := r1.length
    have l2 := r2.length
    exact ⟨vs, ws, vs[i], ws[i], Same.seqT s h1, Same.seqT s h2, by simp, by simp⟩
  stop := fun i H s hi => by
    rw [zipD_length] at hi
    have l1 := r1.length
    have l2 := r2.length
    exact ⟨vs, ws, Same.seqT s h1, Same.seqT s h2, by omega⟩
  yld := fun i H x H' G d s s0 sg y e => by
    obtain ⟨T, u, w, rfl, nT, rfl, y1, y2⟩ := y
    obtain ⟨d1, d2, e1, e2, rfl⟩ := zipD_get e
    obtain ⟨v1, g1, p1⟩ := r1.get e1
    obtain ⟨v2, g2, p2⟩ := r2.get e2
    rw [y1 vs (Same.seqT s h1)] at g1
    rw [y2 ws (Same.seqT s h2)] at g2
    cases g1
    cases g2
    have x2 := Ext.new (o := .tup [u, w]) sg nT
    exact ⟨_, x2, .tup (.inl (.inl upd_same)) (.cons ((p1.mono s0).mono x2.gg) (.cons ((p2.mono s0).mono x2.gg) .nil))⟩
theorem pim_zip {elts : List Expr} {kk : Nat} {tpos : Pos} (hg : Gl X "zip") (hm : X.mg "zip" = none) (he : PM X e me) (he2 : PM X e2 me2) (hs : starEach [e, e2] X.env = (false, eval e X.env) :: starEach [e2] X.env := by rfl)
    (hs2 : starEach [e2] X.env = (false, eval e2 X.env) :: starEach [] X.env := by rfl) (hpl : (backTo pos (starEach [e2] X.env)).any (·.1) = false := by rfl) :
    PIM X (.Tuple elts kk tpos) (.Call (.Name "zip" p) [e, e2] [] pos) true (iZp me me2) := by
  refine PI_imp (RZ.pi_zipA hg hm (pam_cons he (pam_cons he2 pam_nil hs2) hs) hs hpl) fun σ H R h => ?_
  obtain ⟨G, env, F, rel, ds, e1, q⟩ := h
  simp only [iZp, Option.bind_eq_some_iff] at e1
  obtain ⟨t, e2, u, e3, e4⟩ := e1
  refine ⟨G, env, F, rel, [t, u], by simp [aCons, aNil, e2, e3], fun vs H' G' x r => ?_⟩
  obtain ⟨v, w, F', F2, rfl, h, h'⟩ := r.two
  split at e4
  · rename_i xs ys e5 e6
    cases e4
    obtain ⟨a, vs, rfl, h1, p1⟩ := h.fzl e5
    obtain ⟨b, ws, rfl, h2, p2⟩ := h'.fzl e6
    exact ⟨a, b, vs, ws, rfl, .inl ⟨x.gh.seq h1, x.gh.seq h2, q _ H' G' x (wk_zip h1 h2 p1 p2)⟩⟩
  · split at e4
    · rename_i xs ys e5 e6
      cases e4
      obtain ⟨a, vs, rfl, h1, p1⟩ := h.ptup e5
      obtain ⟨b, ws, rfl, h2, p2⟩ := h'.ptup e6
      exact ⟨a, b, vs, ws, rfl, .inr ⟨Same.seqT x.gh h1, Same.seqT x.gh h2, q _ H' G' x (wk_zipT h1 h2 p1 p2)⟩⟩
    · cases e4
/-- enumerate -/
def enumD (k : Nat) : List D → List D
  | [] => []
  | d :: r => .tuple [.int (k : Nat), d] :: enumD (k + 1) r
theorem enumD_length : ∀ (k : Nat) (xs : List D), (enumD k xs).length = xs.length
  | _, [] => rfl
  | k, _ :: r => by simp [enumD, enumD_length (k + 1) r]
theorem enumD_get : ∀ {k : Nat} {xs : List D} {i : Nat} {d : D}, (enumD k xs)[i]? = some d → ∃ a, xs[i]? = some a ∧ d = .tuple [.int ((k + i : Nat) : Int), a]
  | _, [], _, _, e => by simp [enumD] at e
  | k, a :: r, 0, d, e => by simp [enumD] at e; exact ⟨a, rfl, by simp [e.symm]⟩
  | k, a :: r, i + 1, d, e => by
    obtain ⟨x, h1, h2⟩ := enumD_get (k := k + 1) (xs := r) (i := i) (d := d) (by simpa [enumD] using e)
    exact ⟨x, by simpa using h1, by rw [h2]; simp; omega⟩
def iEn (me : EM) : En → Option (List D) := fun env => (me env).bind fun t => t.fzl?.map fun xs => enumD 0 xs
theorem wk_enum {K : PySem.W.Frag} {B G0 : Hp} {a : Addr} {vs : List V} {xs : List D} (h1 : SqL K B a vs) (r1 : Rps K G0 vs xs) : Wk2 K B G0 (Ite K a) (enumD 0 xs) where
  go := fun i H s hi => by
    rw [enumD_length] at hi
    have l1 := r1.length
    exact ⟨vs, vs[i], s.seq h1, by simp⟩
  stop := fun i H s hi => by
    rw [enumD_length] at hi
    have l1 := r1.length
    exact ⟨vs, s.seq h1, by omega⟩
  yld := fun i H x H' G d s s0 sg y e => by
    obtain ⟨T, u, rfl, nT, rfl, y1⟩ := y
    obtain ⟨d1, e1, rfl⟩ := enumD_get e
    obtain ⟨v1, g1, p1⟩ := r1.get e1
    rw [y1 vs (s.seq h1)] at g1
    cases g1
    have x2 := Ext.new (o := .tup [.int (i : Nat), u]) sg nT
    refine ⟨_, x2, .tup (.inl (.inl upd_same)) (.cons ?_ (.cons ((p1.mono s0).mono x2.gg) .nil))⟩
    rw [Nat.zero_add]
    exact .int _
theorem pim_enum {elts : List Expr} {kk : Nat} {tpos : Pos} (hg : Gl X "enumerate") (hm : X.mg "enumerate" = none) (he : PM X e me) (hs : starEach [e] X.env = [(false, eval e X.env)] := by rfl) :
    PIM X (.Tuple elts kk tpos) (.Call (.Name "enumerate" p) [e] [] pos) true (iEn me) := by
  refine PI_imp (pi_enum hg hm (pam_cons he pam_nil hs) hs) fun σ H R h => ?_
  obtain ⟨G, env, F, rel, ds, e1, q⟩ := h
  simp only [iEn, Option.bind_eq_some_iff, Option.map_eq_some_iff] at e1
  obtain ⟨t, e2, xs, e3, rfl⟩ := e1
  refine ⟨G, env, F, rel, [t], by simp [aCons, aNil, e2], fun vs H' G' x r => ?_⟩
  obtain ⟨v, F', rfl, h⟩ := r.one
  obtain ⟨a, vs, rfl, h1, p1⟩ := h.fzl e3
  exact ⟨a, vs, rfl, x.gh.seq h1, q _ H' G' x (wk_enum h1 p1)⟩
end

def lcRun (g : D → En → Option En) (tt : En → Option Bool) (me : EM) (env : En) : List D → Option (List D)
  | [] => some []
  | d :: r => (g d env).bind fun e => (tt e).bind fun b => if b then (me e).bind fun t => t.pure?.bind fun y => (lcRun g tt me env r).map fun ys => y :: ys else lcRun g tt me env r
def mLc (mi : En → Option (List D)) (vs : List Nat) (g : D → En → Option En) (tt : En → Option Bool) (me : EM) : EM := fun env => (mi env).bind fun ds => (lcRun g tt me (wipeE env vs) ds).bind fun out => if out.length ≤ LIM then some (.p (.list out)) else none
def bYes : En → Option Bool := fun _ => some true
abbrev PTsM (X : Cx) (ifs : List Expr) (m : En → Option Bool) : Prop := PTs X ifs (tTM X.K m)
theorem PTs_imp {X : Cx} {e : List Expr} {t t' : TT} (h : PTs X e t) (i : ∀ σ H Q, t' σ H Q → t σ H Q) : PTs X e t' := ⟨fun pins s σ H Q I q => h.run pins s σ H Q I (i σ H Q q)⟩
theorem ptsm_nil {X : Cx} : PTsM X [] bYes := PTs_imp pts_nil fun σ H Q h => by
  obtain ⟨G, env, F, rel, b, e, q⟩ := h
  cases e
  exact q H G (Ext.refl rel.sm)
theorem ptsm_one {X : Cx} {c : Expr} {m : En → Option Bool} (h : PTM X c m) : PTsM X [c] m := pts_one h
/-- the reading of a comprehension whose element is pure -/
theorem lcM {K : PySem.W.Frag} {fz : Bool} {mi : En → Option (List D)} {js vs : List Nat} {g : D → En → Option En} {tt : En → Option Bool} {me : EM} (hj : ∀ j ∈ js, j ∈ vs) {σ : L2.St} {H : Hp} {Q : VK}
    (h : ∃ G env F, Rel K G H env σ F ∧ ∃ ds out, mi env = some ds ∧ lcRun g tt me (wipeE env vs) ds = some out ∧ out.length ≤ LIM ∧
      ∀ p vs' H' G', Ext G H G' H' → H p = none → G' p = none → H' p = some (.lst vs') → Rps K G' vs' out → Q (.ref p) H') :
    tLc (iM K fz mi) (gM K js g) (tTM K tt) (tM K me) vs σ H Q := by
  obtain ⟨G, env, F, rel, ds, out, e1, e2, hz, q⟩ := h
  refine ⟨G, env, F, rel, ds, e1, fun J H1 G1 x1 wk => fun D nD => ?_⟩
  refine ⟨fun i m H2 => m = ds.length - i ∧ i ≤ ds.length ∧ ∃ G2 acc o1 o2, Ext G1 H1 G2 H2 ∧ G2 D = none ∧ H2 D = some (.lst acc) ∧ Rps K G2 acc o1 ∧ lcRun g tt me (wipeE env vs) (ds.drop i) = some o2 ∧ out = o1 ++ o2, ?_, ?_⟩
  · refine ⟨ds.length, rfl, Nat.zero_le _, G1, [], [], out, Ext.fresh x1.gh nD, x1.gh.free nD, upd_same, .nil, by simpa using e2, rfl⟩
  · rintro i m H2 ⟨rfl, hi, G2, acc, o1, o2, x2, gD, hD, ra, e3, eo⟩
    have sB : Same (if fz then G1 else H1) H2 := by
      cases fz with
      | true => exact x2.gg.trans x2.gh
      | false => exact x2.hh
    by_cases hlt : i < ds.length
    · have ed : ds.drop i = ds[i] :: ds.drop (i + 1) := List.drop_eq_getElem_cons hlt
      rw [ed] at e3
      simp only [lcRun, Option.bind_eq_some_iff] at e3
      obtain ⟨env1, e4, b, e5, e6⟩ := e3
      refine .inr ⟨wk.go i H2 sB hlt, fun H' => (i + 1 ≤ ds.length ∧ ∃ G2 acc o1 o2, Ext G1 H1 G2 H' ∧ G2 D = none ∧ H' D = some (.lst acc) ∧ Rps K G2 acc o1 ∧ lcRun g tt me (wipeE env vs) (ds.drop (i + 1)) = some o2 ∧ out = o1 ++ o2), fun H' w => ⟨ds.length - (i + 1), by omega, rfl, w.1, w.2⟩, fun x H3 y => ?_⟩
      obtain ⟨G3, x3, rd⟩ := wk.yld i H2 x H3 G2 ds[i] sB x2.gg x2.gh y (List.getElem?_eq_getElem hlt)
      have gD3 : ∀ {Ga Ha Gb Hb : Hp}, Ext Ga Ha Gb Hb → Ga D = none → Ha D ≠ none → Gb D = none := fun {Ga Ha Gb Hb} x g h => by
        cases z : Gb D with
        | none => rfl
        | some o =>
          rcases x.fr D (by rw [z]; exact Option.some_ne_none o) with w | w
          · exact absurd g w
          · exact absurd w h
      have rel3 := (rel.ext x1).ext (x2.trans x3)
      obtain ⟨Fw, relw⟩ := rel3.wipe vs
      refine ⟨G3, wipeE env vs, Fw, ds[i], relw, rd, env1, e4, fun σ2 F2 rel4 _ ou => ⟨ou.wipe hj |>.trans ?_, ?_⟩⟩
      · have : Only [] (L2.wipe σ vs) (L2.wipe σ vs) := Only.refl _ _
        apply List.ext_getElem?
        intro k
        rw [wipe_get, wipe_get]
        by_cases hk : k ∈ vs
        · rw [if_pos hk, if_pos hk, wipe_length]
        · rw [if_neg hk, if_neg hk]
      · refine ⟨G3, env1, F2, rel4, b, e5, fun H4 G4 x4 => ?_⟩
        have hD3 : H3 D = some (.lst acc) := x3.hh _ _ hD
        have g3 : G3 D = none := gD3 x3 gD (by rw [hD]; exact Option.some_ne_none _)
        have g4 : G4 D = none := gD3 x4 g3 (by rw [hD3]; exact Option.some_ne_none _)
        have hD4 : H4 D = some (.lst acc) := x4.hh _ _ hD3
        cases b with
        | false =>
          rw [if_neg Bool.false_ne_true] at e6
          refine iteF ?_
          exact ⟨hlt, G4, acc, o1, o2, (x2.trans x3).trans x4, g4, hD4, (ra.mono x3.gg).mono x4.gg, e6, eo⟩
        | true =>
          rw [if_pos rfl] at e6
          simp only [Option.bind_eq_some_iff, Option.map_eq_some_iff] at e6
          obtain ⟨t, e7, yd, e8, ys, e9, rfl⟩ := e6
          refine iteT ?_
          refine ⟨G4, env1, F2, rel4.ext x4, t, e7, fun v H5 G5 F5 x5 r5 => ?_⟩
          have hD5 : H5 D = some (.lst acc) := x5.hh _ _ hD4
          have g5 : G5 D = none := gD3 x5 g4 (by rw [hD4]; exact Option.some_ne_none _)
          have x25 := ((x2.trans x3).trans x4).trans x5
          have ra5 : Rps K G5 acc o1 := ((ra.mono x3.gg).mono x4.gg).mono x5.gg
          refine ⟨acc, hD5, ?_, hlt, G5, acc ++ [v], o1 ++ [yd], ys, ⟨x25.gg, fun a o z => ?_, fun a o z => ?_, x25.fr⟩, g5, upd_same, ra5.append (.one (r5.of_pure? e8)), e9, by rw [eo, List.append_assoc]; rfl⟩
          · have l1 := ra5.length
            rw [eo] at hz
            simp only [List.length_append, List.length_cons] at hz
            have := LIM_line
            omega
          · have : a ≠ D := ne_of_none z nD
            rw [upd_ne this]
            exact x25.hh a o z
          · have : a ≠ D := ne_of_none z g5
            rw [upd_ne this]
            exact x25.gh a o z
    · have hi' : i = ds.length := by omega
      subst hi'
      rw [List.drop_length] at e3
      cases e3
      rw [List.append_nil] at eo
      subst eo
      exact .inl ⟨wk.stop _ H2 sB (Nat.le_refl _), q D acc H2 G2 (x1.trans x2) (x1.hh.free nD) gD hD ra⟩
section
variable {X : Cx}
theorem tLcM {K : PySem.W.Frag} {fz : Bool} {mi : En → Option (List D)} {js vs : List Nat} {g : D → En → Option En} {tt : En → Option Bool} {me : EM} (hj : ∀ j ∈ js, j ∈ vs) {σ : L2.St} {H : Hp} {Q : VK} (h : tM K (mLc mi vs g tt me) σ H Q) :
    tLc (iM K fz mi) (gM K js g) (tTM K tt) (tM K me) vs σ H Q := by
  obtain ⟨G, env, F, rel, t, e, q⟩ := h
  simp only [mLc, Option.bind_eq_some_iff] at e
  obtain ⟨ds, e1, out, e2, e3⟩ := e
  split at e3
  · rename_i hz
    cases e3
    refine lcM hj ⟨G, env, F, rel, ds, out, e1, e2, hz, fun p vs' H' G' x hp gp h1 h2 => ?_⟩
    refine q _ H' (upd G' p (.lst vs')) [] ⟨x.gg.trans (same_upd gp), x.hh, fun a o z => ?_, fun a z => ?_⟩ (.p (.lst upd_same (h2.mono (same_upd gp))))
    · by_cases hap : a = p
      · subst hap; rw [upd_same] at z; cases z; exact h1
      · rw [upd_ne hap] at z; exact x.gh a o z
    · by_cases hap : a = p
      · subst hap; exact .inr hp
      · rw [upd_ne hap] at z; exact x.fr a z
  · cases e3
theorem pm_lc {elt tg iter : Expr} {ifs : List Expr} {scope : Scope} {own : List (Str × Nat)} {pos : Pos} {fz : Bool} {mi : En → Option (List D)} {js : List Nat} {g : D → En → Option En} {tt : En → Option Bool} {me : EM} (hc : X.calm = true) (hN : X.N.Nodup) (hi : PIM X tg iter fz mi) (ok : BlkOk X.N X.env.scope scope own)
    (hg : ∀ (s : Shared) (H : Hp) (C : Addr) (cl : List (Str × Addr)) (fp : List Addr), GM (X.blk s H scope (compEnvC scope cl C X.env) fp) tg js g) (ht : ∀ (s : Shared) (H : Hp) (C : Addr) (cl : List (Str × Addr)) (fp : List Addr), PTsM (X.blk s H scope (compEnvC scope cl C X.env) fp) ifs tt)
    (he : ∀ (s : Shared) (H : Hp) (C : Addr) (cl : List (Str × Addr)) (fp : List Addr), PM (X.blk s H scope (compEnvC scope cl C X.env) fp) elt me) (hj : ∀ j ∈ js, j ∈ own.map (·.2) := by decide) (hs : ∀ x, foldedSetIterable iter X.env x = pure x := by intro _; rfl) :
    PM X (.ListComp elt [⟨tg, iter, ifs, 0⟩] scope pos) (mLc mi (own.map (·.2)) g tt me) :=
  PE_imp (pe_lc hc hN hi ok hg ht he hs) fun _ _ _ h => tLcM hj h
end
end M
namespace M
open PySem PySem.Spec PyProof.Rows L2

inductive Out where
  | nx (e : En) | rt (t : T) | bk (e : En) | ct (e : En)
abbrev SM := En → Option Out
/-- the slots stand, R is kept, what is frozen was so ahead (G0) or is new -/
def SR (K : PySem.W.Frag) (G0 R : Hp) (env : En) (σ : L2.St) (H : Hp) : Prop := ∃ G F, Rel K G H env σ F ∧ (∀ a ∈ F, R a = none) ∧ Ext G0 R G H
def RR (K : PySem.W.Frag) (G0 R : Hp) (t : T) (v : V) (H : Hp) : Prop := ∃ G F, Ext G0 R G H ∧ TR K G H t v F ∧ F.Nodup ∧ ∀ a ∈ F, G a = none ∧ R a = none
def Goes (K : PySem.W.Frag) (G0 R : Hp) (D : Ends) : Out → Prop
  | .nx e => ∀ σ H, SR K G0 R e σ H → D.nx σ H
  | .rt t => ∀ v H, RR K G0 R t v H → D.rt v H
  | .bk e => ∀ σ H, SR K G0 R e σ H → D.bk σ H
  | .ct e => ∀ σ H, SR K G0 R e σ H → D.ct σ H
def tS (K : PySem.W.Frag) (m : SM) : TS := fun D σ H => ∃ G0 R env, SR K G0 R env σ H ∧ ∃ o, m env = some o ∧ Goes K G0 R D o
abbrev PSM (X : Cx) (st : Stmt) (m : SM) : Prop := PS X st (tS X.K m)
abbrev PSsM (X : Cx) (st : List Stmt) (m : SM) : Prop := PSs X st (tS X.K m)
theorem PS_imp {X : Cx} {e : Stmt} {t t' : TS} (h : PS X e t) (i : ∀ D σ H, t' D σ H → t D σ H) : PS X e t' := ⟨fun pins s σ H D I q => h.run pins s σ H D I (i D σ H q)⟩
theorem PSs_imp {X : Cx} {e : List Stmt} {t t' : TS} (h : PSs X e t) (i : ∀ D σ H, t' D σ H → t D σ H) : PSs X e t' := ⟨fun pins s σ H D I q => h.run pins s σ H D I (i D σ H q)⟩

section
variable {K : PySem.W.Frag} {G0 R G1 G H H' : Hp}
/-- R kept, through a first state -/
theorem Ext.step (a : Ext G0 R G H) {G' : Hp} (b : Ext G H G' H') : Ext G0 R G' H' := a.trans b
theorem Ext.over {H1 : Hp} (a : Ext G0 R G1 H1) (b : Ext G1 R G H) : Ext G0 R G H := ⟨a.gg.trans b.gg, b.hh, b.gh, fun x h => by
  rcases b.fr x h with z | z
  · exact a.fr x z
  · exact .inr z⟩
theorem SR.over {H1 : Hp} {env : En} {σ : L2.St} (a : Ext G0 R G1 H1) (s : SR K G1 R env σ H) : SR K G0 R env σ H := by
  obtain ⟨G, F, h1, h2, h3⟩ := s
  exact ⟨G, F, h1, h2, a.over h3⟩
theorem RR.over {H1 : Hp} {t : T} {v : V} (a : Ext G0 R G1 H1) (s : RR K G1 R t v H) : RR K G0 R t v H := by
  obtain ⟨G, F, h1, h2, h3, h4⟩ := s
  exact ⟨G, F, a.over h1, h2, h3, h4⟩
theorem Goes.over {H1 : Hp} {D : Ends} {o : Out} (a : Ext G0 R G1 H1) (g : Goes K G0 R D o) : Goes K G1 R D o := by
  cases o with
  | nx e => exact fun σ H s => g σ H (s.over a)
  | rt t => exact fun v H s => g v H (s.over a)
  | bk e => exact fun σ H s => g σ H (s.over a)
  | ct e => exact fun σ H s => g σ H (s.over a)
end

def sNil : SM := fun env => some (.nx env)
def sCons (a b : SM) : SM := fun env => (a env).bind fun o => match o with
  | .nx e => b e
  | o => some o
section
variable {X : Cx} {st : Stmt} {rest : List Stmt} {ma mb : SM} {pos : Pos}
theorem psm_nil : PSsM X [] sNil := PSs_imp pss_nil fun D σ H h => by
  obtain ⟨G0, R, env, s, o, e, g⟩ := h
  cases e
  exact g σ H s
theorem psm_cons (ha : PSM X st ma) (hb : PSsM X rest mb) : PSsM X (st :: rest) (sCons ma mb) := by
  refine PSs_imp (pss_cons ha hb) fun D σ H h => ?_
  obtain ⟨G0, R, env, s, o, e, g⟩ := h
  simp only [sCons, Option.bind_eq_some_iff] at e
  obtain ⟨o1, e1, e2⟩ := e
  refine ⟨G0, R, env, s, o1, e1, ?_⟩
  cases o1 with
  | nx e => exact fun σ' H' s' => ⟨G0, R, e, s', o, e2, g⟩
  | rt t => cases e2; exact g
  | bk t => cases e2; exact g
  | ct t => cases e2; exact g
theorem psm_one (ha : PSM X st ma) : PSsM X [st] ma := by
  refine PSs_imp (pss_one ha) fun D σ H h => ?_
  exact h
def sPass : SM := fun env => some (.nx env)
def sBreak : SM := fun env => some (.bk env)
def sContinue : SM := fun env => some (.ct env)
def sNever : SM := fun _ => none
variable {e : Expr} {me : EM}
def sExpr (m : EM) : SM := fun env => (m env).map fun _ => .nx env
def sRet (m : EM) : SM := fun env => (m env).bind fun t => t.pure?.map fun d => .rt (.p d)
theorem psm_ret (he : PM X e me) : PSM X (.Return (some e) pos) (sRet me) := by
  refine PS_imp (ps_ret he) fun D σ H h => ?_
  obtain ⟨G0, R, env, ⟨G, F, rel, hR, x0⟩, o, e, g⟩ := h
  simp only [sRet, Option.bind_eq_some_iff, Option.map_eq_some_iff] at e
  obtain ⟨t, e1, d, e2, rfl⟩ := e
  exact ⟨G, env, F, rel, t, e1, fun v H' G' F' x r => g v H' ⟨G', [], x0.trans x, .p (r.of_pure? e2), .nil, fun _ z => nomatch z⟩⟩
def sSet (i : Nat) (m : EM) : SM := fun env => (m env).bind fun t => t.pure?.map fun d => .nx (env.set i (some (.p d)))
theorem SR.putp {K : PySem.W.Frag} {G0 R G H : Hp} {env : En} {σ : L2.St} {F : List Addr} (rel : Rel K G H env σ F) (hR : ∀ a ∈ F, R a = none) (x0 : Ext G0 R G H) (i : Nat) {v : V} {d : D} (h : Rp K G v d) : SR K G0 R (env.set i (some (.p d))) (σ.set i (some v)) H := by
  obtain ⟨F', r', s'⟩ := rel.putp i h
  exact ⟨G, F', r', fun a ha => hR a (s' a ha), x0⟩
theorem tSetM {K : PySem.W.Frag} {i : Nat} {m : EM} {D : Ends} {σ : L2.St} {H : Hp} (h : tS K (sSet i m) D σ H) : tM K m σ H fun x H1 => gName i x σ H1 D.nx := by
  obtain ⟨G0, R, env, ⟨G, F, rel, hR, x0⟩, o, e, g⟩ := h
  simp only [sSet, Option.bind_eq_some_iff, Option.map_eq_some_iff] at e
  obtain ⟨t, e1, d, e2, rfl⟩ := e
  exact ⟨G, env, F, rel, t, e1, fun v H' G' F' x r => g _ H' (SR.putp (rel.ext x) hR (x0.trans x) i (r.of_pure? e2))⟩
theorem psm_set {i : Nat} {x : Str} {pos' : Pos} (hN : X.N.Nodup) (he : PM X e me) (hi : X.N[i]? = some x := by rfl) (hx : Loc X.env.scope x := by first | exact Or.inl rfl | exact Or.inr rfl) (hs : swapsWith e (some (.Name x pos')) pos.line X.env = pure false := by rfl) (hf : X.fn x = true ∨ X.env.scope.names.lookup x = some .local := by first | exact .inl rfl | exact .inr rfl | assumption) :
    PSM X (.Assign [.Name x pos'] e pos) (sSet i me) := PS_imp (ps_set hN hi hx he hs hf) fun D σ H h => tSetM h
/-- y = [..] -/
theorem psm_setLc {i : Nat} {y : Str} {py spos : Pos} {elt tg iter : Expr} {ifs : List Expr} {scope : Scope} {own : List (Str × Nat)} {fz : Bool} {mi : En → Option (List D)} {js : List Nat} {g : D → En → Option En} {tt : En → Option Bool} {me : EM} (hc : X.calm = true) (hN : X.N.Nodup)
    (hi : PIM X tg iter fz mi) (ok : BlkOk X.N X.env.scope scope own)
    (hg : ∀ (s : Shared) (H : Hp) (C : Addr) (cl : List (Str × Addr)) (fp : List Addr), GM (X.blk s H scope (compEnvC scope cl C X.env) fp) tg js g) (ht : ∀ (s : Shared) (H : Hp) (C : Addr) (cl : List (Str × Addr)) (fp : List Addr), PTsM (X.blk s H scope (compEnvC scope cl C X.env) fp) ifs tt)
    (he : ∀ (s : Shared) (H : Hp) (C : Addr) (cl : List (Str × Addr)) (fp : List Addr), PM (X.blk s H scope (compEnvC scope cl C X.env) fp) elt me)
    (hsw : swapsWith (.ListComp elt [⟨tg, iter, ifs, 0⟩] scope pos) (some (.Name y py)) spos.line X.env = pure true) (hy : X.N[i]? = some y := by rfl) (hyl : X.env.scope.names.lookup y = some .local := by rfl)
    (hj : ∀ j ∈ js, j ∈ own.map (·.2) := by decide) (hs : ∀ x, foldedSetIterable iter X.env x = pure x := by intro _; rfl) :
    PSM X (.Assign [.Name y py] (.ListComp elt [⟨tg, iter, ifs, 0⟩] scope pos) spos) (sSet i (mLc mi (own.map (·.2)) g tt me)) :=
  PS_imp (ps_setLc hc hN hy hyl hsw hi ok hg ht he hs) fun D σ H h => tLcM hj (tSetM h)
/-- a, b = e -/
def sAsg (g : D → En → Option En) (m : EM) : SM := fun env => (m env).bind fun t => t.pure?.bind fun d => (g d env).map .nx
theorem psm_asg {tg : Expr} {js : List Nat} {g : D → En → Option En} (he : PM X e me) (hg : GM X tg js g) (hs : swapsWithSole [tg] e pos.line X.env = pure false := by rfl) (hw : swappedStores [tg] e X.env = pure none := by rfl)
    (h1 : (assignEach [tg] X.env).map (·.2) = [assign tg X.env] := by rfl) : PSM X (.Assign [tg] e pos) (sAsg g me) := by
  refine PS_imp (ps_asg he hg hs hw h1) fun D σ H h => ?_
  obtain ⟨G0, R, env, ⟨G, F, rel, hR, x0⟩, o, e, gg⟩ := h
  simp only [sAsg, Option.bind_eq_some_iff, Option.map_eq_some_iff] at e
  obtain ⟨t, e1, d, e2, env', e3, rfl⟩ := e
  refine ⟨G, env, F, rel, t, e1, fun v H' G' F' x r => ?_⟩
  exact ⟨G', env, F, d, rel.ext x, r.of_pure? e2, env', e3, fun σ' F2 rel2 s2 _ => gg σ' H' ⟨G', F2, rel2, fun a ha => hR a (s2 a ha), x0.trans x⟩⟩
/-- a, b = x, y (plain locals) -/
def sPar (i j : Nat) (ms : En → Option (List T)) : SM := fun env => (ms env).bind fun ts => (pures ts).bind fun ds => match ds with
  | [d, d'] => some (.nx ((env.set i (some (.p d))).set j (some (.p d'))))
  | _ => none
def sIf (c : En → Option Bool) (a b : SM) : SM := fun env => (c env).bind fun k => if k then a env else b env
theorem psm_if {c : Expr} {a b : List Stmt} {mc : En → Option Bool} (hc : PTM X c mc) (ha : PSsM X a ma) (hb : PSsM X b mb) : PSM X (.If c a b pos) (sIf mc ma mb) := by
  refine PS_imp (ps_if hc ha hb) fun D σ H h => ?_
  obtain ⟨G0, R, env, ⟨G, F, rel, hR, x0⟩, o, e, g⟩ := h
  simp only [sIf, Option.bind_eq_some_iff] at e
  obtain ⟨k, e1, e2⟩ := e
  refine ⟨G, env, F, rel, k, e1, fun H' G' x => ?_⟩
  cases k with
  | true =>
    rw [if_pos rfl] at e2
    exact iteT ⟨G0, R, env, ⟨G', F, rel.ext x, hR, x0.trans x⟩, o, e2, g⟩
  | false =>
    rw [if_neg Bool.false_ne_true] at e2
    exact iteF ⟨G0, R, env, ⟨G', F, rel.ext x, hR, x0.trans x⟩, o, e2, g⟩
def forRun (g : D → En → Option En) (mb : SM) : List D → En → Option Out
  | [], env => some (.nx env)
  | d :: r, env => (g d env).bind fun e1 => (mb e1).bind fun o => match o with
    | .nx e => forRun g mb r e
    | .ct e => forRun g mb r e
    | .bk e => some (.nx e)
    | .rt t => some (.rt t)
def sFor (mi : En → Option (List D)) (g : D → En → Option En) (mb : SM) : SM := fun env => (mi env).bind fun ds => forRun g mb ds env
theorem psm_for {tg iter : Expr} {body : List Stmt} {mi : En → Option (List D)} {js : List Nat} {g : D → En → Option En} (hp : PassesOwn (model X.prog X.w) X.A X.env X.xe) (hc : X.calm = true) (hi : PIM X tg iter true mi) (hg : GM X tg js g) (hb : PSsM X body mb)
    (hs : ∀ x, foldedSetIterable iter X.env x = pure x := by intro _; rfl) : PSM X (.For tg iter body [] pos) (sFor mi g mb) := by
  refine PS_imp (ps_for hp hc hi hg hb hs) fun D σ H h => ?_
  obtain ⟨G0, R, env, ⟨G, F, rel, hR, x0⟩, o, e, gg⟩ := h
  simp only [sFor, Option.bind_eq_some_iff] at e
  obtain ⟨ds, e1, e2⟩ := e
  refine ⟨G, env, F, rel, ds, e1, fun J H1 G1 x1 wk => ?_⟩
  have x01 := x0.trans x1
  refine ⟨fun i m σ H => m = ds.length - i ∧ i ≤ ds.length ∧ ∃ envi, SR X.K G1 R envi σ H ∧ forRun g mb (ds.drop i) envi = some o, ⟨ds.length, rfl, Nat.zero_le _, env, ⟨G1, F, rel.ext x1, hR, ⟨Same.refl _, x01.hh, x1.gh, fun a h => .inl h⟩⟩, e2⟩, ?_⟩
  rintro i m σ H ⟨rfl, hi', envi, ⟨G2, F2, rel2, hR2, x2⟩, e3⟩
  have sB : Same G1 H := x2.gg.trans x2.gh
  by_cases hlt : i < ds.length
  · have ed : ds.drop i = ds[i] :: ds.drop (i + 1) := List.drop_eq_getElem_cons hlt
    rw [ed] at e3
    simp only [forRun, Option.bind_eq_some_iff] at e3
    obtain ⟨env1, e4, o1, e5, e6⟩ := e3
    refine .inr ⟨wk.go i H sB hlt, fun σ' H' => (∃ envi, SR X.K G1 R envi σ' H' ∧ forRun g mb (ds.drop (i + 1)) envi = some o), fun σ' H' w => ⟨ds.length - (i + 1), by omega, rfl, hlt, w⟩, fun x H3 y => ?_⟩
    obtain ⟨G3, x3, rd⟩ := wk.yld i H x H3 G2 ds[i] sB x2.gg x2.gh y (List.getElem?_eq_getElem hlt)
    refine ⟨G3, envi, F2, ds[i], rel2.ext x3, rd, env1, e4, fun σ4 F4 rel4 s4 _ => ?_⟩
    refine ⟨G1, R, env1, ⟨G3, F4, rel4, fun a ha => hR2 a (s4 a ha), x2.trans x3⟩, o1, e5, ?_⟩
    cases o1 with
    | nx e => exact fun σ' H' s' => ⟨e, s', e6⟩
    | ct e => exact fun σ' H' s' => ⟨e, s', e6⟩
    | bk e =>
      cases e6
      exact fun σ' H' s' => gg σ' H' (s'.over x01)
    | rt t =>
      cases e6
      exact fun v H' s' => gg v H' (s'.over x01)
  · have hi2 : i = ds.length := by omega
    subst hi2
    rw [List.drop_length] at e3
    cases e3
    exact .inl ⟨wk.stop _ H sB (Nat.le_refl _), gg σ H (SR.over x01 ⟨G2, F2, rel2, hR2, x2⟩)⟩
def whileRun (c : En → Option Bool) (mb : SM) : Nat → En → Option Out
  | 0, _ => none
  | n + 1, env => (c env).bind fun k => if k then (mb env).bind fun o => (match o with
    | .nx e => whileRun c mb n e
    | .ct e => whileRun c mb n e
    | .bk e => some (.nx e)
    | .rt t => some (.rt t)) else some (.nx env)
def sWhile (fuel : Nat) (c : En → Option Bool) (mb : SM) : SM := fun env => whileRun c mb fuel env
theorem psm_while {fuel : Nat} {c : Expr} {body : List Stmt} {mc : En → Option Bool} (hp : PassesOwn (model X.prog X.w) X.A X.env X.xe) (hc : PTM X c mc) (hb : PSsM X body mb) : PSM X (.While c body [] pos) (sWhile fuel mc mb) := by
  refine PS_imp (ps_while hp hc hb) fun D σ H h => ?_
  obtain ⟨G0, R, env, s, o, e, gg⟩ := h
  refine ⟨fun m σ H => ∃ envi, SR X.K G0 R envi σ H ∧ whileRun mc mb m envi = some o, ⟨fuel, env, s, e⟩, ?_⟩
  rintro m σ H ⟨envi, ⟨G, F, rel, hR, x0⟩, e1⟩
  cases m with
  | zero => cases e1
  | succ m =>
    simp only [whileRun, Option.bind_eq_some_iff] at e1
    obtain ⟨k, e2, e3⟩ := e1
    refine ⟨G, envi, F, rel, k, e2, fun H' G' x => ?_⟩
    cases k with
    | false =>
      rw [if_neg Bool.false_ne_true] at e3
      cases e3
      exact iteF (gg σ H' ⟨G', F, rel.ext x, hR, x0.trans x⟩)
    | true =>
      rw [if_pos rfl] at e3
      simp only [Option.bind_eq_some_iff] at e3
      obtain ⟨o1, e4, e5⟩ := e3
      refine iteT ⟨fun σ' H' => ∃ envi, SR X.K G0 R envi σ' H' ∧ whileRun mc mb m envi = some o, fun σ' H' w => ⟨m, Nat.lt_succ_self m, w⟩, ?_⟩
      refine ⟨G0, R, envi, ⟨G', F, rel.ext x, hR, x0.trans x⟩, o1, e4, ?_⟩
      cases o1 with
      | nx e => exact fun σ' H' s' => ⟨e, s', e5⟩
      | ct e => exact fun σ' H' s' => ⟨e, s', e5⟩
      | bk e => cases e5; exact fun σ' H' s' => gg σ' H' s'
      | rt t => cases e5; exact fun v H' s' => gg v H' s'
def sFrz (i : Nat) (m : SM) : SM := fun env => match env[i]? with
  | some (some t) => t.snap.bind fun d => m (env.set i (some (.p d)))
  | _ => m env
theorem psm_frz {sts : List Stmt} (i : Nat) (h : PSsM X sts ma) : PSsM X sts (sFrz i ma) := by
  refine PSs_imp h fun D σ H h => ?_
  obtain ⟨G0, R, env, ⟨G, F, rel, hR, x0⟩, o, e, gg⟩ := h
  unfold sFrz at e
  split at e
  · rename_i t et
    rw [Option.bind_eq_some_iff] at e
    obtain ⟨d, e1, e2⟩ := e
    obtain ⟨v, F1, Fa, Fb, h1, h2, h3, _, h5, _⟩ := rel.es.split et
    subst h3
    have m1 : ∀ a ∈ F1, a ∈ Fa ++ (F1 ++ Fb) := fun a ha => List.mem_append_right _ (List.mem_append_left _ ha)
    let G' : Hp := fun a => if a ∈ F1 then H a else G a
    have g1 : Same G G' := fun a u z => by
      show (if a ∈ F1 then H a else G a) = some u
      by_cases ha : a ∈ F1
      · rw [(rel.fr a (m1 a ha)).1] at z; cases z
      · rw [if_neg ha]; exact z
    have g2 : Same G' H := fun a u z => by
      have z' : (if a ∈ F1 then H a else G a) = some u := z
      by_cases ha : a ∈ F1
      · rw [if_pos ha] at z'; exact z'
      · rw [if_neg ha] at z'; exact rel.sm a u z'
    have rd : Rp X.K G' v d := h2.data g1 (fun a ha u z => by
      show (if a ∈ F1 then H a else G a) = some u
      rw [if_pos ha]; exact z) e1
    have nd := rel.nd
    rw [List.nodup_append] at nd
    obtain ⟨n1, n2, n3⟩ := nd
    rw [List.nodup_append] at n2
    obtain ⟨n4, n5, n6⟩ := n2
    have dj : ∀ a ∈ Fa ++ Fb, a ∉ F1 := fun a ha z => by
      rcases List.mem_append.mp ha with w | w
      · exact n3 a w a (List.mem_append_left _ z) rfl
      · exact n6 a z a w rfl
    have mf : ∀ a ∈ Fa ++ Fb, a ∈ Fa ++ (F1 ++ Fb) := fun a ha => by
      rcases List.mem_append.mp ha with w | w
      · exact List.mem_append_left _ w
      · exact List.mem_append_right _ (List.mem_append_right _ w)
    have es := h5 G' H (.p d) [] g1 (Keep.of (Same.refl H)) (.p rd)
    rw [List.nil_append] at es
    refine ⟨G0, R, _, ⟨G', Fa ++ Fb, ⟨es, ?_, fun a ha => ?_, g2⟩, fun a ha => hR a (mf a ha), ⟨x0.gg.trans g1, x0.hh, g2, fun a z => ?_⟩⟩, o, e2, gg⟩
    · exact List.nodup_append.mpr ⟨n1, n5, fun a ha b hb => n3 a ha b (List.mem_append_right _ hb)⟩
    · obtain ⟨z1, z2⟩ := rel.fr a (mf a ha)
      refine ⟨?_, z2⟩
      show (if a ∈ F1 then H a else G a) = none
      rw [if_neg (dj a ha)]
      exact z1
    · have z' : (if a ∈ F1 then H a else G a) ≠ none := z
      by_cases ha : a ∈ F1
      · exact .inr (hR a (m1 a ha))
      · rw [if_neg ha] at z'; exact x0.fr a z'
  · exact ⟨G0, R, env, ⟨G, F, rel, hR, x0⟩, o, e, gg⟩
end
end M
namespace M
open PySem PySem.Spec PyProof.Rows L2

inductive Stp where
  | ix (k : Nat) | fd (f : Str)
def T.at : List Stp → T → Option T
  | [], t => some t.strip
  | .ix k :: π, t => match t.strip with
    | .ml ts => (ts[k]?).bind fun u => T.at π u
    | .tp ts => (ts[k]?).bind fun u => T.at π u
    | _ => none
  | .fd f :: π, t => match t.strip with
    | .ob _ fs => (fs.lookup f).bind fun u => T.at π u
    | _ => none
def setF (f : Str) (t : T) : List (Str × T) → List (Str × T)
  | [] => []
  | (g, u) :: r => if f == g then (g, t) :: r else (g, u) :: setF f t r
def T.put : List Stp → T → T → Option T
  | [], t, u => some (t.wrap u)
  | .ix k :: π, t, u => match t.strip with
    | .ml ts => (ts[k]?).bind fun c => (T.put π c u).map fun c' => t.wrap (.ml (ts.set k c'))
    | .tp ts => (ts[k]?).bind fun c => (T.put π c u).map fun c' => t.wrap (.tp (ts.set k c'))
    | _ => none
  | .fd f :: π, t, u => match t.strip with
    | .ob C fs => (fs.lookup f).bind fun c => (T.put π c u).map fun c' => t.wrap (.ob C (setF f c' fs))
    | _ => none
inductive VAt (H : Hp) : V → List Stp → V → Prop
  | nil (v : V) : VAt H v [] v
  | lst {a : Addr} {vs : List V} {k : Nat} {w u : V} {π : List Stp} : H a = some (.lst vs) → vs[k]? = some w → VAt H w π u → VAt H (.ref a) (.ix k :: π) u
  | tup {a : Addr} {vs : List V} {k : Nat} {w u : V} {π : List Stp} : H a = some (.tup vs) → vs[k]? = some w → VAt H w π u → VAt H (.ref a) (.ix k :: π) u
  | ob {a C dx : Addr} {fs : List (Str × V)} {f : Str} {w u : V} {π : List Stp} : H a = some (.ins C dx fs) → fs.lookup f = some w → VAt H w π u → VAt H (.ref a) (.fd f :: π) u
theorem VAt.mono {H H' : Hp} (s : Same H H') : ∀ {v : V} {π : List Stp} {u : V}, VAt H v π u → VAt H' v π u
  | _, _, _, .nil v => .nil v
  | _, _, _, .lst h e r => .lst (s _ _ h) e (r.mono s)
  | _, _, _, .tup h e r => .tup (s _ _ h) e (r.mono s)
  | _, _, _, .ob h e r => .ob (s _ _ h) e (r.mono s)
theorem VAt.det {H : Hp} : ∀ {v : V} {π : List Stp} {u w : V}, VAt H v π u → VAt H v π w → u = w
  | _, _, _, _, .nil _, .nil _ => rfl
  | _, _, _, _, .lst h e r, .lst h' e' r' => by rw [h] at h'; cases h'; rw [e] at e'; cases e'; exact r.det r'
  | _, _, _, _, .lst h e r, .tup h' e' r' => by rw [h] at h'; cases h'
  | _, _, _, _, .tup h e r, .lst h' e' r' => by rw [h] at h'; cases h'
  | _, _, _, _, .tup h e r, .tup h' e' r' => by rw [h] at h'; cases h'; rw [e] at e'; cases e'; exact r.det r'
  | _, _, _, _, .ob h e r, .ob h' e' r' => by rw [h] at h'; cases h'; rw [e] at e'; cases e'; exact r.det r'
theorem VAt.snocL {H : Hp} : ∀ {v : V} {π : List Stp} {a : Addr} {vs : List V} {k : Nat} {w : V}, VAt H v π (.ref a) → H a = some (.lst vs) → vs[k]? = some w → VAt H v (π ++ [.ix k]) w
  | _, _, _, _, _, _, .nil _, h, e => .lst h e (.nil _)
  | _, _, _, _, _, _, .lst h1 e1 r, h, e => .lst h1 e1 (r.snocL h e)
  | _, _, _, _, _, _, .tup h1 e1 r, h, e => .tup h1 e1 (r.snocL h e)
  | _, _, _, _, _, _, .ob h1 e1 r, h, e => .ob h1 e1 (r.snocL h e)
theorem VAt.snocT {H : Hp} : ∀ {v : V} {π : List Stp} {a : Addr} {vs : List V} {k : Nat} {w : V}, VAt H v π (.ref a) → H a = some (.tup vs) → vs[k]? = some w → VAt H v (π ++ [.ix k]) w
  | _, _, _, _, _, _, .nil _, h, e => .tup h e (.nil _)
  | _, _, _, _, _, _, .lst h1 e1 r, h, e => .lst h1 e1 (r.snocT h e)
  | _, _, _, _, _, _, .tup h1 e1 r, h, e => .tup h1 e1 (r.snocT h e)
  | _, _, _, _, _, _, .ob h1 e1 r, h, e => .ob h1 e1 (r.snocT h e)
section
variable {K : PySem.W.Frag} {G H : Hp}
theorem TRs.split : ∀ {ts : List T} {vs : List V} {F : List Addr} {k : Nat} {t : T}, TRs K G H ts vs F → ts[k]? = some t →
    ∃ v F1 Fa Fb, vs[k]? = some v ∧ TR K G H t v F1 ∧ F = Fa ++ (F1 ++ Fb) ∧
      ∀ G' H' t' F1', Same G G' → Keep (Fa ++ Fb) H H' → TR K G' H' t' v F1' → TRs K G' H' (ts.set k t') vs (Fa ++ (F1' ++ Fb))
  | _, _, _, 0, t, .cons (F := F1) (F' := F2) h r, e => by
    simp only [List.getElem?_cons_zero, Option.some.injEq] at e
    subst e
    refine ⟨_, F1, [], F2, rfl, h, rfl, fun G' H' t' F1' s k q => ?_⟩
    rw [List.nil_append]
    exact .cons q (r.keep s k)
  | _, _, _, k + 1, t, .cons (F := F0) h r, e => by
    obtain ⟨v, F1, Fa, Fb, h1, h2, h3, h4⟩ := TRs.split (k := k) (t := t) r (by simpa using e)
    refine ⟨v, F1, F0 ++ Fa, Fb, by simpa using h1, h2, by rw [h3, List.append_assoc], fun G' H' t' F1' s k q => ?_⟩
    rw [List.append_assoc]
    refine .cons (h.keep s (k.sub fun _ q => List.mem_append_left _ (List.mem_append_left _ q))) (h4 G' H' t' F1' s (k.sub fun _ q => ?_) q)
    rw [List.append_assoc]
    exact List.mem_append_right _ q
theorem TRf.split : ∀ {ts : List (Str × T)} {vs : List (Str × V)} {F : List Addr} {f : Str} {t : T}, TRf K G H ts vs F → ts.lookup f = some t →
    ∃ v F1 Fa Fb, vs.lookup f = some v ∧ TR K G H t v F1 ∧ F = Fa ++ (F1 ++ Fb) ∧
      ∀ G' H' t' F1', Same G G' → Keep (Fa ++ Fb) H H' → TR K G' H' t' v F1' → TRf K G' H' (setF f t' ts) vs (Fa ++ (F1' ++ Fb))
  | _, _, _, f, t, .nil, e => by simp at e
  | _, _, _, f, t, .cons (x := x) (F := F0) (F' := F2) h r, e => by
    rw [List.lookup_cons] at e
    by_cases hx : (f == x) = true
    · rw [hx] at e
      cases e
      refine ⟨_, F0, [], F2, by rw [List.lookup_cons, hx], h, rfl, fun G' H' t' F1' s k q => ?_⟩
      rw [List.nil_append]
      unfold setF
      rw [if_pos hx]
      exact .cons q (r.keep s k)
    · have hx' : (f == x) = false := by simpa using hx
      rw [hx'] at e
      obtain ⟨v, F1, Fa, Fb, h1, h2, h3, h4⟩ := TRf.split (f := f) (t := t) r e
      refine ⟨v, F1, F0 ++ Fa, Fb, by rw [List.lookup_cons, hx']; exact h1, h2, by rw [h3, List.append_assoc], fun G' H' t' F1' s k q => ?_⟩
      rw [List.append_assoc]
      unfold setF
      rw [if_neg hx]
      refine .cons (h.keep s (k.sub fun _ q => List.mem_append_left _ (List.mem_append_left _ q))) (h4 G' H' t' F1' s (k.sub fun _ q => ?_) q)
      rw [List.append_assoc]
      exact List.mem_append_right _ q
theorem TR.at : ∀ {π : List Stp} {t u : T} {v0 : V} {F : List Addr}, TR K G H t v0 F → T.at π t = some u →
    ∃ v F1 Fa Fb, VAt H v0 π v ∧ TR K G H u v F1 ∧ F = Fa ++ (F1 ++ Fb) ∧
      ∀ G' H' u' F1', Same G G' → Keep (Fa ++ Fb) H H' → TR K G' H' u' v F1' → ∃ t', T.put π t u' = some t' ∧ TR K G' H' t' v0 (Fa ++ (F1' ++ Fb))
  | [], t, u, v0, F, r, e => by
    cases e
    refine ⟨v0, F, [], [], .nil _, r.strip, by simp, fun G' H' u' F1' s k q => ⟨t.wrap u', rfl, by simpa using r.wrap q⟩⟩
  | .ix k :: π, t, u, v0, F, r, e => by
    have rs := r.strip
    unfold T.at at e
    unfold T.put
    generalize hts : t.strip = ts0 at e rs
    cases rs with
    | ml h r' =>
      rename_i ts a vs F0
      simp only [Option.bind_eq_some_iff] at e
      obtain ⟨c, e1, e2⟩ := e
      obtain ⟨w, Fc, Fp, Fs, h1, h2, h3, h4⟩ := r'.split e1
      obtain ⟨v, F1, Fa, Fb, g1, g2, g3, g4⟩ := TR.at h2 e2
      subst h3 g3
      refine ⟨v, F1, a :: (Fp ++ Fa), Fb ++ Fs, .lst h h1 g1, g2, by simp [List.append_assoc], fun G' H' u' F1' s kp q => ?_⟩
      obtain ⟨t', p1, p2⟩ := g4 G' H' u' F1' s (kp.sub fun x hx => by simp at hx ⊢; rcases hx with z | z <;> simp [z]) q
      refine ⟨t.wrap (.ml (List.set ts k t')), by simp only [e1, Option.bind_some, p1, Option.map_some], r.wrap ?_⟩
      have q2 := h4 G' H' t' _ s (kp.sub fun x hx => by simp at hx ⊢; rcases hx with z | z <;> simp [z]) p2
      have q3 : TR K G' H' (.ml (_)) (.ref a) _ := .ml (kp a (by simp) _ h) q2
      have e9 : (a :: (Fp ++ (Fa ++ (F1' ++ Fb) ++ Fs))) = a :: (Fp ++ Fa) ++ (F1' ++ (Fb ++ Fs)) := by simp [List.append_assoc]
      rw [e9] at q3
      exact q3
    | tp h r' =>
      rename_i ts a vs F0
      simp only [Option.bind_eq_some_iff] at e
      obtain ⟨c, e1, e2⟩ := e
      obtain ⟨w, Fc, Fp, Fs, h1, h2, h3, h4⟩ := r'.split e1
      obtain ⟨v, F1, Fa, Fb, g1, g2, g3, g4⟩ := TR.at h2 e2
      subst h3 g3
      refine ⟨v, F1, a :: (Fp ++ Fa), Fb ++ Fs, .tup h h1 g1, g2, by simp [List.append_assoc], fun G' H' u' F1' s kp q => ?_⟩
      obtain ⟨t', p1, p2⟩ := g4 G' H' u' F1' s (kp.sub fun x hx => by simp at hx ⊢; rcases hx with z | z <;> simp [z]) q
      refine ⟨t.wrap (.tp (List.set ts k t')), by simp only [e1, Option.bind_some, p1, Option.map_some], r.wrap ?_⟩
      have q2 := h4 G' H' t' _ s (kp.sub fun x hx => by simp at hx ⊢; rcases hx with z | z <;> simp [z]) p2
      have q3 : TR K G' H' (.tp (_)) (.ref a) _ := .tp (kp a (by simp) _ h) q2
      have e9 : (a :: (Fp ++ (Fa ++ (F1' ++ Fb) ++ Fs))) = a :: (Fp ++ Fa) ++ (F1' ++ (Fb ++ Fs)) := by simp [List.append_assoc]
      rw [e9] at q3
      exact q3
    | _ => cases e
  | .fd f :: π, t, u, v0, F, r, e => by
    have rs := r.strip
    unfold T.at at e
    unfold T.put
    generalize hts : t.strip = ts0 at e rs
    cases rs with
    | ob h h0 r' =>
      rename_i C ts a dx vs F0
      simp only [Option.bind_eq_some_iff] at e
      obtain ⟨c, e1, e2⟩ := e
      obtain ⟨w, Fc, Fp, Fs, h1, h2, h3, h4⟩ := r'.split e1
      obtain ⟨v, F1, Fa, Fb, g1, g2, g3, g4⟩ := TR.at h2 e2
      subst h3 g3
      refine ⟨v, F1, a :: dx :: (Fp ++ Fa), Fb ++ Fs, .ob h h1 g1, g2, by simp [List.append_assoc], fun G' H' u' F1' s kp q => ?_⟩
      obtain ⟨t', p1, p2⟩ := g4 G' H' u' F1' s (kp.sub fun x hx => by simp at hx ⊢; rcases hx with z | z <;> simp [z]) q
      refine ⟨t.wrap (.ob C (setF f t' ts)), by simp only [e1, Option.bind_some, p1, Option.map_some], r.wrap ?_⟩
      have q2 := h4 G' H' t' _ s (kp.sub fun x hx => by simp at hx ⊢; rcases hx with z | z <;> simp [z]) p2
      have q3 : TR K G' H' (.ob C (_)) (.ref a) _ := .ob (kp a (by simp) _ h) (kp dx (by simp) _ h0) q2
      have e9 : (a :: dx :: (Fp ++ (Fa ++ (F1' ++ Fb) ++ Fs))) = a :: dx :: (Fp ++ Fa) ++ (F1' ++ (Fb ++ Fs)) := by simp [List.append_assoc]
      rw [e9] at q3
      exact q3
    | _ => cases e
mutual
theorem TR.alive : ∀ {t : T} {v : V} {F : List Addr}, TR K G H t v F → ∀ a ∈ F, H a ≠ none
  | _, _, _, .p _, _, h => nomatch h
  | _, _, _, .sc _, _, h => nomatch h
  | _, _, _, .ml h r, a, ha => by
    rcases List.mem_cons.mp ha with z | z
    · subst z; rw [h]; exact Option.some_ne_none _
    · exact TRs.alive r a z
  | _, _, _, .tp h r, a, ha => by
    rcases List.mem_cons.mp ha with z | z
    · subst z; rw [h]; exact Option.some_ne_none _
    · exact TRs.alive r a z
  | _, _, _, .md h r, a, ha => by
    rcases List.mem_cons.mp ha with z | z
    · subst z; rw [h]; exact Option.some_ne_none _
    · cases z
  | _, _, _, .mk h r, a, ha => by
    rcases List.mem_cons.mp ha with z | z
    · subst z; rw [h]; exact Option.some_ne_none _
    · cases z
  | _, _, _, .ob h h0 r, a, ha => by
    rcases List.mem_cons.mp ha with z | z
    · subst z; rw [h]; exact Option.some_ne_none _
    · rcases List.mem_cons.mp z with z | z
      · subst z; rw [h0]; exact Option.some_ne_none _
      · exact TRf.alive r a z
  | _, _, _, .rf r, a, ha => TR.alive r a ha
  | _, _, _, .io h r, a, ha => by
    rcases List.mem_append.mp ha with z | z
    · exact TR.alive h a z
    · exact TRs.alive r a z
theorem TRs.alive : ∀ {t : List T} {v : List V} {F : List Addr}, TRs K G H t v F → ∀ a ∈ F, H a ≠ none
  | _, _, _, .nil, _, h => nomatch h
  | _, _, _, .cons h r, a, ha => by
    rcases List.mem_append.mp ha with z | z
    · exact TR.alive h a z
    · exact TRs.alive r a z
theorem TRf.alive : ∀ {t : List (Str × T)} {v : List (Str × V)} {F : List Addr}, TRf K G H t v F → ∀ a ∈ F, H a ≠ none
  | _, _, _, .nil, _, h => nomatch h
  | _, _, _, .cons h r, a, ha => by
    rcases List.mem_append.mp ha with z | z
    · exact TR.alive h a z
    · exact TRf.alive r a z
end
theorem ES.alive : ∀ {env : En} {σ : L2.St} {F : List Addr}, ES K G H env σ F → ∀ a ∈ F, H a ≠ none
  | _, _, _, .nil, _, h => nomatch h
  | _, _, _, .no r, a, ha => ES.alive r a ha
  | _, _, _, .so h r, a, ha => by
    rcases List.mem_append.mp ha with z | z
    · exact TR.alive h a z
    · exact ES.alive r a z
/-- the part at a path of a slot, and what a change there makes of the slots -/
theorem Rel.mut {env : En} {σ : L2.St} {F : List Addr} {i : Nat} {t u : T} {π : List Stp} (rel : Rel K G H env σ F) (ei : env[i]? = some (some t)) (eu : T.at π t = some u) :
    ∃ v0 v F1 Fo, σ[i]? = some (some v0) ∧ VAt H v0 π v ∧ TR K G H u v F1 ∧ (∀ a ∈ F1, a ∈ F) ∧ F1.Nodup ∧ (∀ a ∈ Fo, a ∈ F ∧ a ∉ F1) ∧
      ∀ G' H' u' F1', Same G G' → Same G' H' → Keep Fo H H' → TR K G' H' u' v F1' → F1'.Nodup → (∀ a ∈ F1', G' a = none ∧ a ∉ Fo) → (∀ a ∈ Fo, G' a = none) →
        ∃ t' F', T.put π t u' = some t' ∧ Rel K G' H' (env.set i (some t')) σ F' ∧ ∀ a ∈ F', a ∈ F1' ∨ a ∈ Fo := by
  obtain ⟨v0, F0, Fa, Fb, h1, h2, h3, _, h5, _⟩ := rel.es.split ei
  obtain ⟨v, F1, Fc, Fd, g1, g2, g3, g4⟩ := h2.at eu
  subst h3 g3
  have nd := rel.nd
  have e0 : Fa ++ (Fc ++ (F1 ++ Fd) ++ Fb) = (Fa ++ Fc) ++ (F1 ++ (Fd ++ Fb)) := by simp [List.append_assoc]
  rw [e0] at nd
  rw [List.nodup_append] at nd
  obtain ⟨n1, n2, n3⟩ := nd
  rw [List.nodup_append] at n2
  obtain ⟨n4, n5, n6⟩ := n2
  refine ⟨v0, v, F1, (Fa ++ Fc) ++ (Fd ++ Fb), h1, g1, g2, fun a ha => by rw [e0]; simp [ha], n4, fun a ha => ⟨?_, ?_⟩, ?_⟩
  · rw [e0]
    rcases List.mem_append.mp ha with z | z
    · exact List.mem_append_left _ z
    · exact List.mem_append_right _ (List.mem_append_right _ z)
  · intro z
    rcases List.mem_append.mp ha with w | w
    · exact n3 a w a (List.mem_append_left _ z) rfl
    · exact n6 a z a w rfl
  · intro G' H' u' F1' s sg kp q nd1 fr1 fro
    obtain ⟨t', p1, p2⟩ := g4 G' H' u' F1' s (kp.sub fun x hx => by simp at hx ⊢; rcases hx with z | z <;> simp [z]) q
    have es := h5 G' H' t' _ s (kp.sub fun x hx => by simp at hx ⊢; rcases hx with z | z <;> simp [z]) p2
    have e1 : Fa ++ (Fc ++ (F1' ++ Fd) ++ Fb) = (Fa ++ Fc) ++ (F1' ++ (Fd ++ Fb)) := by simp [List.append_assoc]
    rw [e1] at es
    have mem : ∀ a ∈ (Fa ++ Fc) ++ (F1' ++ (Fd ++ Fb)), a ∈ F1' ∨ a ∈ (Fa ++ Fc) ++ (Fd ++ Fb) := fun a ha => by
      rcases List.mem_append.mp ha with z | z
      · exact .inr (List.mem_append_left _ z)
      · rcases List.mem_append.mp z with z | z
        · exact .inl z
        · exact .inr (List.mem_append_right _ z)
    refine ⟨t', _, p1, ⟨es, ?_, fun a ha => ⟨?_, es.alive a ha⟩, sg⟩, mem⟩
    · rw [List.nodup_append]
      refine ⟨n1, List.nodup_append.mpr ⟨nd1, n5, fun a ha b hb z => (fr1 a ha).2 (by subst z; exact List.mem_append_right _ hb)⟩, fun a ha b hb z => ?_⟩
      subst z
      rcases List.mem_append.mp hb with w | w
      · exact (fr1 a w).2 (List.mem_append_left _ ha)
      · exact n3 a ha a (List.mem_append_right _ w) rfl
    · rcases mem a ha with z | z
      · exact (fr1 a z).1
      · exact fro a z
/-- an owned list at a path is changed, its new items owned by what its items owned -/
theorem Rel.lset {env : En} {σ : L2.St} {F : List Addr} {i : Nat} {t : T} {ts : List T} {π : List Stp} (rel : Rel K G H env σ F) (ei : env[i]? = some (some t)) (eu : T.at π t = some (.ml ts)) :
    ∃ v0 a vs Fk, σ[i]? = some (some v0) ∧ VAt H v0 π (.ref a) ∧ H a = some (.lst vs) ∧ TRs K G H ts vs Fk ∧ a ∈ F ∧ Fk.Nodup ∧
      ∀ ts' vs' Fk', TRs K G H ts' vs' Fk' → Fk'.Nodup → (∀ b ∈ Fk', b ∈ Fk) → ∃ t' F', T.put π t (.ml ts') = some t' ∧ Rel K G (upd H a (.lst vs')) (env.set i (some t')) σ F' ∧ ∀ b ∈ F', b ∈ F := by
  obtain ⟨v0, v, F1, Fo, h1, h2, h3, h4, h5, h6, h7⟩ := rel.mut ei eu
  cases h3 with
  | ml h r =>
    rename_i a vs Fk
    refine ⟨v0, a, vs, Fk, h1, h2, h, r, h4 a List.mem_cons_self, (List.nodup_cons.mp h5).2, fun ts' vs' Fk' r' nd' sub => ?_⟩
    have na : a ∉ Fk := (List.nodup_cons.mp h5).1
    have ga : G a = none := (rel.fr a (h4 a List.mem_cons_self)).1
    have kp : ∀ L : List Addr, a ∉ L → Keep L H (upd H a (.lst vs')) := fun L hL b hb o z => by
      rw [upd_ne (fun e => by subst e; exact hL hb)]; exact z
    have fr1 : ∀ b ∈ a :: Fk', G b = none ∧ b ∉ Fo := fun b hb => by
      have hb' : b ∈ a :: Fk := by
        rcases List.mem_cons.mp hb with z | z
        · subst z; exact List.mem_cons_self
        · exact List.mem_cons_of_mem _ (sub b z)
      exact ⟨(rel.fr b (h4 b hb')).1, fun z => (h6 b z).2 hb'⟩
    obtain ⟨t', F', p1, p2, p3⟩ := h7 G (upd H a (.lst vs')) (.ml ts') (a :: Fk') (Same.refl G) (fun b o z => by
        rw [upd_ne (ne_of_none z ga)]; exact rel.sm b o z) (kp Fo fun z => (h6 a z).2 List.mem_cons_self)
      (.ml upd_same (r'.keep (Same.refl G) (kp Fk' fun z => na (sub a z)))) (List.nodup_cons.mpr ⟨fun z => na (sub a z), nd'⟩) fr1 (fun b hb => (rel.fr b (h6 b hb).1).1)
    refine ⟨t', F', p1, p2, fun b hb => ?_⟩
    rcases p3 b hb with z | z
    · rcases List.mem_cons.mp z with z | z
      · subst z; exact h4 b List.mem_cons_self
      · exact h4 b (List.mem_cons_of_mem _ (sub b z))
    · exact (h6 b z).1
theorem TRs.append : ∀ {ts us : List T} {vs ws : List V} {F F' : List Addr}, TRs K G H ts vs F → TRs K G H us ws F' → TRs K G H (ts ++ us) (vs ++ ws) (F ++ F')
  | _, _, _, _, _, _, .nil, s => s
  | _, _, _, _, _, _, .cons h r, s => by
    have q := TRs.cons h (TRs.append r s)
    rw [← List.append_assoc] at q
    exact q
theorem TRs.len : ∀ {ts : List T} {vs : List V} {F : List Addr}, TRs K G H ts vs F → vs.length = ts.length
  | _, _, _, .nil => rfl
  | _, _, _, .cons _ r => by simp [r.len]
theorem TRs.setp {v : V} {d : D} (h : Rp K G v d) : ∀ {ts : List T} {vs : List V} {F : List Addr} (k : Nat), TRs K G H ts vs F → ∃ F', TRs K G H (ts.set k (.p d)) (vs.set k v) F' ∧ F'.Sublist F
  | _, _, _, _, .nil => ⟨[], .nil, .slnil⟩
  | _, _, _, 0, .cons _ r => ⟨_, .cons (.p h) r, by simp⟩
  | _, _, _, k + 1, .cons h0 r => by
    obtain ⟨F', h1, h2⟩ := TRs.setp h k r
    exact ⟨_, .cons h0 h1, List.Sublist.append (List.Sublist.refl _) h2⟩
theorem TRs.erase : ∀ {ts : List T} {vs : List V} {F : List Addr} (k : Nat), TRs K G H ts vs F → ∃ F', TRs K G H (ts.eraseIdx k) (vs.eraseIdx k) F' ∧ F'.Sublist F
  | _, _, _, _, .nil => ⟨[], .nil, .slnil⟩
  | _, _, _, 0, .cons _ r => ⟨_, r, by simp⟩
  | _, _, _, k + 1, .cons h0 r => by
    obtain ⟨F', h1, h2⟩ := TRs.erase k r
    exact ⟨_, .cons h0 h1, List.Sublist.append (List.Sublist.refl _) h2⟩
theorem TRs.insert {v : V} {d : D} (h : Rp K G v d) : ∀ {ts : List T} {vs : List V} {F : List Addr} (k : Nat), TRs K G H ts vs F → TRs K G H (ts.take k ++ [.p d] ++ ts.drop k) (vs.take k ++ [v] ++ vs.drop k) F
  | _, _, _, _, .nil => by simp; exact .cons (F := []) (F' := []) (.p h) .nil
  | _, _, _, 0, .cons (F := F1) (F' := F2) h0 r => by
    simp
    have q := TRs.cons (TR.p (H := H) h) (TRs.cons h0 r)
    exact q
  | _, _, _, k + 1, .cons h0 r => by
    have q := TRs.insert h k r
    simp at q ⊢
    exact .cons h0 q
end
end M
namespace M
open PySem PySem.Spec PyProof.Rows L2

abbrev PMm := En → Option (Nat × List Stp)
def tP (K : PySem.W.Frag) (mp : PMm) : TE := fun σ H Q => ∃ G env F, Rel K G H env σ F ∧ ∃ i π, mp env = some (i, π) ∧ ∀ v v0 H' G', Ext G H G' H' → σ[i]? = some (some v0) → VAt H' v0 π v → Q v H'
abbrev PP (X : Cx) (e : Expr) (mp : PMm) : Prop := PE X e (tP X.K mp)
def slotT (env : En) (i : Nat) : Option T := (env[i]?).join
theorem slotT_eq {env : En} {i : Nat} {t : T} (e : slotT env i = some t) : env[i]? = some (some t) := by
  unfold slotT at e
  cases z : env[i]? with
  | none => rw [z] at e; cases e
  | some o => rw [z] at e; simp at e; rw [e]
def pVar (i : Nat) : PMm := fun env => (slotT env i).map fun _ => (i, [])
def T.own? : T → Option (List T)
  | .ml ts => some ts
  | .tp ts => some ts
  | _ => none
def pIx (mp : PMm) (mi : EM) : PMm := fun env => (mp env).bind fun q => (mi env).bind fun k => k.int?.bind fun k => (slotT env q.1).bind fun t => (T.at q.2 t).bind fun u => u.own?.bind fun ts => (ixN ts.length k).map fun j => (q.1, q.2 ++ [.ix j])
section
variable {X : Cx} {pos : Pos}
theorem pp_var (i : Nat) {x : Str} (hN : X.N[i]? = some x := by rfl) (hv : Vis X.env.scope x := by first | exact Or.inl rfl | exact Or.inr (Or.inl rfl) | exact Or.inr (Or.inr rfl)) (hd : (x == ("__debug__" : Str)) = false := by decide)
    (hcd : (x == ("__classdict__" : Str)) = false := by decide) : PP X (.Name x pos) (pVar i) := by
  refine PE_imp (pe_var hN hv hd hcd) fun σ H Q h => ?_
  obtain ⟨G, env, F, rel, j, π, e, q⟩ := h
  simp only [pVar, Option.map_eq_some_iff] at e
  obtain ⟨t, e1, e2⟩ := e
  cases e2
  obtain ⟨v, F1, Fa, Fb, h1, h2, _⟩ := rel.es.split (slotT_eq e1)
  exact ⟨v, h1, q v v H G (Ext.refl rel.sm) h1 (.nil _)⟩
theorem ixN_at {α : Type} {xs : List α} {k : Int} {j : Nat} {x : α} (e : ixN xs.length k = some j) (h : xs[j]? = some x) : atI xs k = some x := by
  unfold atI
  rw [e]
  exact h
theorem ixN_lt {n : Nat} {k : Int} {j : Nat} (e : ixN n k = some j) : j < n := (ixN_seq e).2.1
theorem pp_ix {a b : Expr} {mp : PMm} {mi : EM} (ha : PP X a mp) (hb : PM X b mi) (hs : PlainIx b) : PP X (.Subscript a b pos) (pIx mp mi) := by
  refine PE_imp (pe_ix ix_seq ha hb hs) fun σ H Q h => ?_
  obtain ⟨G, env, F, rel, i, π, e, q⟩ := h
  simp only [pIx, Option.bind_eq_some_iff, Option.map_eq_some_iff] at e
  obtain ⟨⟨i0, π0⟩, e1, tk, e2, k, e3, t, e4, u, e5, ts, e6, j, e7, e8⟩ := e
  cases e8
  refine ⟨G, env, F, rel, _, _, e1, fun v v0 H1 G1 x1 hs hv => ?_⟩
  refine ⟨G1, env, F, rel.ext x1, tk, e2, fun w H2 G2 F2 x2 r2 => ?_⟩
  have rel2 := (rel.ext x1).ext x2
  obtain ⟨v0', v', F1, Fo, h1, h2, h3, _⟩ := rel2.mut (slotT_eq e4) e5
  have z0 : v0' = v0 := by
    have := h1.symm.trans hs
    cases this
    rfl
  subst z0
  have hv2 := hv.mono x2.hh
  have z1 := hv2.det h2
  subst z1
  have x12 := x1.trans x2
  cases u with
  | ml us =>
    simp only [T.own?, Option.some.injEq] at e6; subst e6
    cases h3 with
    | ml h r =>
      have hj : j < us.length := ixN_lt e7
      obtain ⟨y, Fy, hy, _⟩ := r.args.get (List.getElem?_eq_getElem hj)
      exact .inl ⟨_, _, k, y, rfl, r2.int e3, .inl (.inl h), ixN_at (by rw [r.len]; exact e7) hy, q y v0' H2 G2 x12 hs (hv2.snocL h hy)⟩
  | tp us =>
    simp only [T.own?, Option.some.injEq] at e6; subst e6
    cases h3 with
    | tp h r =>
      have hj : j < us.length := ixN_lt e7
      obtain ⟨y, Fy, hy, _⟩ := r.args.get (List.getElem?_eq_getElem hj)
      exact .inr (.inl ⟨_, _, k, y, rfl, r2.int e3, .inl (.inl h), ixN_at (by rw [r.len]; exact e7) hy, q y v0' H2 G2 x12 hs (hv2.snocT h hy)⟩)
  | _ => simp [T.own?] at e6

/-- an owned list at a path, read and changed: the frame of the rules below -/
theorem lst_at {K : PySem.W.Frag} {G0 R G H : Hp} {env : En} {σ : L2.St} {F : List Addr} {i : Nat} {π : List Stp} {t : T} {ts : List T} {v v0 : V} (rel : Rel K G H env σ F) (hR : ∀ a ∈ F, R a = none) (x0 : Ext G0 R G H)
    (e1 : slotT env i = some t) (e2 : T.at π t = some (.ml ts)) (hs : σ[i]? = some (some v0)) (hv : VAt H v0 π v) :
    ∃ a vs Fk, v = .ref a ∧ H a = some (.lst vs) ∧ TRs K G H ts vs Fk ∧ Fk.Nodup ∧
      ∀ ts' vs' Fk', TRs K G H ts' vs' Fk' → Fk'.Nodup → (∀ b ∈ Fk', b ∈ Fk) → ∃ t', T.put π t (.ml ts') = some t' ∧ SR K G0 R (env.set i (some t')) σ (upd H a (.lst vs')) := by
  obtain ⟨v0', a, vs, Fk, h1, h2, h3, h4, h5, nd, h6⟩ := rel.lset (slotT_eq e1) e2
  have z0 : v0' = v0 := by
    have := h1.symm.trans hs
    cases this
    rfl
  subst z0
  have z1 := hv.det h2
  subst z1
  refine ⟨a, vs, Fk, rfl, h3, h4, nd, fun ts' vs' Fk' r' nd' sub => ?_⟩
  obtain ⟨t', F', p1, p2, p3⟩ := h6 ts' vs' Fk' r' nd' sub
  refine ⟨t', p1, G, F', p2, fun b hb => hR b (p3 b hb), ⟨x0.gg, fun b o z => ?_, p2.sm, x0.fr⟩⟩
  have : b ≠ a := fun q => by subst q; rw [hR b h5] at z; cases z
  rw [upd_ne this]
  exact x0.hh b o z
def updAt (mp : PMm) (f : List T → Option (List T)) : En → Option En := fun env => (mp env).bind fun q => (slotT env q.1).bind fun t => (T.at q.2 t).bind fun u => match u with
  | .ml ts => (f ts).bind fun ts' => (T.put q.2 t (.ml ts')).map fun t' => env.set q.1 (some t')
  | _ => none
theorem updAt_eq {mp : PMm} {f : List T → Option (List T)} {env env' : En} (e : updAt mp f env = some env') : ∃ i π t ts ts' t', mp env = some (i, π) ∧ slotT env i = some t ∧ T.at π t = some (.ml ts) ∧ f ts = some ts' ∧ T.put π t (.ml ts') = some t' ∧ env' = env.set i (some t') := by
  simp only [updAt, Option.bind_eq_some_iff] at e
  obtain ⟨⟨i, π⟩, e1, t, e2, u, e3, e4⟩ := e
  split at e4
  · simp only [Option.bind_eq_some_iff, Option.map_eq_some_iff] at e4
    obtain ⟨ts', e5, t', e6, rfl⟩ := e4
    exact ⟨i, π, t, _, ts', t', e1, e2, e3, e5, e6, rfl⟩
  · cases e4
def sAppend (mp : PMm) (me : EM) : SM := fun env => (me env).bind fun y => y.pure?.bind fun d => (updAt mp (fun ts => if ts.length < LIM then some (ts ++ [.p d]) else none) env).map .nx
variable {o e ie : Expr} {mp : PMm} {me mi : EM} {apos cpos : Pos}
theorem psm_append (ho : PP X o mp) (he : PM X e me) (hbase : attributeBase o "append" X.env (eval o X.env) = eval o X.env := by rfl)
    (hfew : ((backTo cpos (starEach [e] X.env)).all (fun x => !x.1) && (backToKw cpos (keywordEach [] X.env)).all (fun x => x.1.isSome)
      && decide ([e].length + ([] : List Keyword).length + (if ([] : List Keyword).isEmpty then 0 else 1) < 30)) = true := by rfl)
    (hline : (apos.endLine == cpos.line) = true := by rfl) (hs : starEach [e] X.env = (false, eval e X.env) :: starEach [] X.env := by rfl) (hsw : swapsWith (.Call (.Attribute o "append" apos) [e] [] cpos) none pos.line X.env = pure false := by rfl) :
    PSM X (.Expr (.Call (.Attribute o "append" apos) [e] [] cpos) pos) (sAppend mp me) := by
  refine PS_imp (ps_expr (pe_bm PySem.F.plainAttrs_list PySem.F.slot_list_append PySem.F.type_list_append mt_append ho (pam_cons he pam_nil hs) hbase hfew hline hs rfl) hsw) fun D σ H h => ?_
  obtain ⟨G0, R, env, ⟨G, F, rel, hR, x0⟩, o, e, g⟩ := h
  simp only [sAppend, Option.bind_eq_some_iff, Option.map_eq_some_iff] at e
  obtain ⟨y, e1, d, e2, env', e3, rfl⟩ := e
  obtain ⟨i, π, t, ts, ts', t', e4, e5, e6, e7, e8, rfl⟩ := updAt_eq e3
  refine ⟨G, env, F, rel, i, π, e4, fun v v0 H1 G1 x1 hs hv => ?_⟩
  obtain ⟨a, vs, Fk, rfl, ha, _⟩ := lst_at (rel.ext x1) hR (x0.trans x1) e5 e6 hs hv
  refine ⟨.inl ⟨rfl, vs, .inl (.inl ha)⟩, ?_⟩
  refine ⟨G1, env, F, rel.ext x1, [y], by simp [aCons, aNil, e1], fun ws H2 G2 x2 r => ?_⟩
  obtain ⟨w, F', rfl, hw⟩ := r.one
  have rw' := hw.of_pure? e2
  obtain ⟨a', vs', Fk', z, ha', ht, nk, up⟩ := lst_at ((rel.ext x1).ext x2) hR ((x0.trans x1).trans x2) e5 e6 hs (hv.mono x2.hh)
  cases z
  split at e7
  · rename_i hz
    cases e7
    refine ⟨a, vs', w, rfl, rfl, ha', by rw [ht.len]; exact Nat.lt_of_lt_of_le hz LIM_line, ?_⟩
    have q1 := ht.append (TRs.cons (TR.p (H := H2) rw') .nil)
    obtain ⟨t'', p1, p2⟩ := up _ _ _ q1 (by simpa using nk) (fun b hb => by simpa using hb)
    rw [e8] at p1
    cases p1
    exact g σ _ p2
  · cases e7
def insN (ts : List T) (k : Int) (d : D) : Option (List T) := if 0 ≤ k ∧ k < 2 ^ 62 ∧ ts.length < LIM then some (ts.take k.toNat ++ [.p d] ++ ts.drop k.toNat) else none
def sInsert (mp : PMm) (mi me : EM) : SM := fun env => (mi env).bind fun k => k.int?.bind fun k => (me env).bind fun y => y.pure?.bind fun d => (updAt mp (fun ts => insN ts k d) env).map .nx
theorem psm_insert (ho : PP X o mp) (hi : PM X ie mi) (he : PM X e me) (hbase : attributeBase o "insert" X.env (eval o X.env) = eval o X.env := by rfl)
    (hfew : ((backTo cpos (starEach [ie, e] X.env)).all (fun x => !x.1) && (backToKw cpos (keywordEach [] X.env)).all (fun x => x.1.isSome)
      && decide ([ie, e].length + ([] : List Keyword).length + (if ([] : List Keyword).isEmpty then 0 else 1) < 30)) = true := by rfl)
    (hline : (apos.endLine == cpos.line) = true := by rfl) (hs : starEach [ie, e] X.env = (false, eval ie X.env) :: starEach [e] X.env := by rfl) (hs2 : starEach [e] X.env = (false, eval e X.env) :: starEach [] X.env := by rfl) (hpl : (backTo cpos (starEach [e] X.env)).any (·.1) = false := by rfl)
    (hsw : swapsWith (.Call (.Attribute o "insert" apos) [ie, e] [] cpos) none pos.line X.env = pure false := by rfl) :
    PSM X (.Expr (.Call (.Attribute o "insert" apos) [ie, e] [] cpos) pos) (sInsert mp mi me) := by
  refine PS_imp (ps_expr (pe_bm PySem.F.plainAttrs_list PySem.F.slot_list_insert PySem.F.type_list_insert mt_insert ho (pam_cons hi (pam_cons he pam_nil hs2) hs) hbase hfew hline hs hpl) hsw) fun D σ H h => ?_
  obtain ⟨G0, R, env, ⟨G, F, rel, hR, x0⟩, o, e, g⟩ := h
  simp only [sInsert, Option.bind_eq_some_iff, Option.map_eq_some_iff] at e
  obtain ⟨tk, ek, k, ek2, y, e1, d, e2, env', e3, rfl⟩ := e
  obtain ⟨i, π, t, ts, ts', t', e4, e5, e6, e7, e8, rfl⟩ := updAt_eq e3
  refine ⟨G, env, F, rel, i, π, e4, fun v v0 H1 G1 x1 hs hv => ?_⟩
  obtain ⟨a, vs, Fk, rfl, ha, _⟩ := lst_at (rel.ext x1) hR (x0.trans x1) e5 e6 hs hv
  refine ⟨.inl ⟨rfl, vs, .inl (.inl ha)⟩, ?_⟩
  refine ⟨G1, env, F, rel.ext x1, [tk, y], by simp [aCons, aNil, e1, ek], fun ws H2 G2 x2 r => ?_⟩
  obtain ⟨w0, w, F0, F', rfl, hw0, hw⟩ := r.two
  have rw' := hw.of_pure? e2
  obtain ⟨a', vs', Fk', z, ha', ht, nk, up⟩ := lst_at ((rel.ext x1).ext x2) hR ((x0.trans x1).trans x2) e5 e6 hs (hv.mono x2.hh)
  cases z
  unfold insN at e7
  split at e7
  · rename_i hz
    cases e7
    refine ⟨a, vs', k, w, rfl, by rw [hw0.int ek2], ha', by rw [ht.len]; exact Nat.lt_of_lt_of_le hz.2.2 LIM_line, hz.1, by omega, ?_⟩
    have q1 := ht.insert rw' k.toNat
    obtain ⟨t'', p1, p2⟩ := up _ _ _ q1 nk (fun b hb => hb)
    rw [e8] at p1
    cases p1
    exact g σ _ p2
  · cases e7
/-- xs[k] = e -/
def setN (ts : List T) (k : Int) (d : D) : Option (List T) := (ixN ts.length k).map fun j => ts.set j (.p d)
def sSetIx (mp : PMm) (mi me : EM) : SM := fun env => (mi env).bind fun k => k.int?.bind fun k => (me env).bind fun y => y.pure?.bind fun d => (updAt mp (fun ts => setN ts k d) env).map .nx
theorem psm_setIx {tpos : Pos} (ho : PP X o mp) (hi : PM X ie mi) (he : PM X e me)
    (ha : ∀ v, assign (.Subscript o ie tpos) X.env v = (do
      let ov ← holding [v] (eval o X.env)
      let iv ← holding [v, ov] (eval ie X.env)
      standAt tpos
      holding [v, ov, iv] (setItem ov iv v)
      release [v, ov, iv] []) := by intro _; rfl)
    (hs : swapsWithSole [.Subscript o ie tpos] e pos.line X.env = pure false := by rfl) (hw : swappedStores [.Subscript o ie tpos] e X.env = pure none := by rfl)
    (h1 : (assignEach [.Subscript o ie tpos] X.env).map (·.2) = [assign (.Subscript o ie tpos) X.env] := by rfl) : PSM X (.Assign [.Subscript o ie tpos] e pos) (sSetIx mp mi me) := by
  refine PS_imp (ps_asg he (pg_sub ho hi set_list ha) hs hw h1) fun D σ H h => ?_
  obtain ⟨G0, R, env, ⟨G, F, rel, hR, x0⟩, o, e, g⟩ := h
  simp only [sSetIx, Option.bind_eq_some_iff, Option.map_eq_some_iff] at e
  obtain ⟨tk, ek, k, ek2, y, e1, d, e2, env', e3, rfl⟩ := e
  obtain ⟨i, π, t, ts, ts', t', e4, e5, e6, e7, e8, rfl⟩ := updAt_eq e3
  refine ⟨G, env, F, rel, y, e1, fun w H1 G1 F1 x1 r1 => ?_⟩
  refine ⟨G1, env, F, rel.ext x1, i, π, e4, fun v v0 H2 G2 x2 hs hv => ?_⟩
  refine ⟨G2, env, F, (rel.ext x1).ext x2, tk, ek, fun kv H3 G3 F3 x3 r3 => ?_⟩
  have x23 := x2.trans x3
  obtain ⟨a', vs', Fk', rfl, ha', ht, nk, up⟩ := lst_at (((rel.ext x1).ext x2).ext x3) hR (((x0.trans x1).trans x2).trans x3) e5 e6 hs (hv.mono x3.hh)
  simp only [setN, Option.map_eq_some_iff] at e7
  obtain ⟨j, e9, rfl⟩ := e7
  refine ⟨a', vs', k, j, rfl, r3.int ek2, ha', by rw [ht.len]; exact e9, ?_⟩
  obtain ⟨F4, q1, q2⟩ := ht.setp ((r1.of_pure? e2).mono x23.gg) j
  obtain ⟨t'', p1, p2⟩ := up _ _ _ q1 (nk.sublist q2) (fun b hb => q2.subset hb)
  rw [e8] at p1
  cases p1
  exact g σ _ p2
/-- xs.pop(k), its value dropped -/
def sPopAt (mp : PMm) (mi : EM) : SM := fun env => (mi env).bind fun k => k.int?.bind fun k => if -(2 ^ 62) ≤ k ∧ k < 2 ^ 62 then (updAt mp (fun ts => (ixN ts.length k).map fun j => ts.eraseIdx j) env).map .nx else none
theorem psm_popAt (ho : PP X o mp) (hi : PM X ie mi) (hbase : attributeBase o "pop" X.env (eval o X.env) = eval o X.env := by rfl)
    (hfew : ((backTo cpos (starEach [ie] X.env)).all (fun x => !x.1) && (backToKw cpos (keywordEach [] X.env)).all (fun x => x.1.isSome)
      && decide ([ie].length + ([] : List Keyword).length + (if ([] : List Keyword).isEmpty then 0 else 1) < 30)) = true := by rfl)
    (hline : (apos.endLine == cpos.line) = true := by rfl) (hs : starEach [ie] X.env = (false, eval ie X.env) :: starEach [] X.env := by rfl) (hsw : swapsWith (.Call (.Attribute o "pop" apos) [ie] [] cpos) none pos.line X.env = pure false := by rfl) :
    PSM X (.Expr (.Call (.Attribute o "pop" apos) [ie] [] cpos) pos) (sPopAt mp mi) := by
  refine PS_imp (ps_expr (pe_bm PySem.F.plainAttrs_list PySem.F.slot_list_pop PySem.F.type_list_pop mt_popAt ho (pam_cons hi pam_nil hs) hbase hfew hline hs rfl) hsw) fun D σ H h => ?_
  obtain ⟨G0, R, env, ⟨G, F, rel, hR, x0⟩, o, e, g⟩ := h
  simp only [sPopAt, Option.bind_eq_some_iff] at e
  obtain ⟨tk, ek, k, ek2, e⟩ := e
  split at e
  · rename_i hk
    rw [Option.map_eq_some_iff] at e
    obtain ⟨env', e3, rfl⟩ := e
    obtain ⟨i, π, t, ts, ts', t', e4, e5, e6, e7, e8, rfl⟩ := updAt_eq e3
    refine ⟨G, env, F, rel, i, π, e4, fun v v0 H1 G1 x1 hs hv => ?_⟩
    obtain ⟨a, vs, Fk, rfl, ha, _⟩ := lst_at (rel.ext x1) hR (x0.trans x1) e5 e6 hs hv
    refine ⟨.inl ⟨rfl, vs, .inl (.inl ha)⟩, ?_⟩
    refine ⟨G1, env, F, rel.ext x1, [tk], by simp [aCons, aNil, ek], fun ws H2 G2 x2 r => ?_⟩
    obtain ⟨w0, F0, rfl, hw0⟩ := r.one
    obtain ⟨a', vs', Fk', z, ha', ht, nk, up⟩ := lst_at ((rel.ext x1).ext x2) hR ((x0.trans x1).trans x2) e5 e6 hs (hv.mono x2.hh)
    cases z
    rw [Option.map_eq_some_iff] at e7
    obtain ⟨j, e9, rfl⟩ := e7
    obtain ⟨s1, s2, s3, s4⟩ := ixN_seq e9
    have hj : j < vs'.length := by rw [ht.len]; exact s2
    refine ⟨a, vs', k, j, vs'[j], rfl, by rw [hw0.int ek2], ha', by omega, by omega, by rw [ht.len]; exact s1, List.getElem?_eq_getElem hj, ?_⟩
    obtain ⟨F4, q1, q2⟩ := ht.erase j
    obtain ⟨t'', p1, p2⟩ := up _ _ _ q1 (nk.sublist q2) (fun b hb => q2.subset hb)
    rw [e8] at p1
    cases p1
    exact g σ _ p2
  · cases e
/-- x = xs.pop(k); x another slot -/
def popN (mp : PMm) (k : Int) (env : En) : Option (En × D) := (mp env).bind fun q => (slotT env q.1).bind fun t => (T.at q.2 t).bind fun u => match u with
  | .ml ts => (ixN ts.length k).bind fun j => (ts[j]?).bind fun y => y.pure?.bind fun d => (T.put q.2 t (.ml (ts.eraseIdx j))).map fun t' => (env.set q.1 (some t'), d)
  | _ => none
theorem popN_eq {mp : PMm} {k : Int} {env env' : En} {d : D} (e : popN mp k env = some (env', d)) : ∃ i π t ts j t', mp env = some (i, π) ∧ slotT env i = some t ∧ T.at π t = some (.ml ts) ∧ ixN ts.length k = some j ∧ ts[j]? = some (.p d) ∧ T.put π t (.ml (ts.eraseIdx j)) = some t' ∧ env' = env.set i (some t') := by
  simp only [popN, Option.bind_eq_some_iff] at e
  obtain ⟨⟨i, π⟩, e1, t, e2, u, e3, e4⟩ := e
  split at e4
  · simp only [Option.bind_eq_some_iff, Option.map_eq_some_iff] at e4
    obtain ⟨j, e5, y, e6, d', e7, t', e8, e9⟩ := e4
    cases e9
    cases y with
    | p d2 => simp [T.pure?] at e7; subst e7; exact ⟨i, π, t, _, j, t', e1, e2, e3, e5, e6, e8, rfl⟩
    | _ => simp [T.pure?] at e7
  · cases e4
def sSetPopAt (x : Nat) (mp : PMm) (mi : EM) : SM := fun env => (mi env).bind fun k => k.int?.bind fun k => if -(2 ^ 62) ≤ k ∧ k < 2 ^ 62 then (popN mp k env).map fun r => .nx (r.1.set x (some (.p r.2))) else none
def sSetPop (x : Nat) (mp : PMm) : SM := fun env => (popN mp (-1) env).map fun r => .nx (r.1.set x (some (.p r.2)))
theorem lst_atG {K : PySem.W.Frag} {G0 R G H : Hp} {env : En} {σ : L2.St} {F : List Addr} {i : Nat} {π : List Stp} {t : T} {ts : List T} {v v0 : V} (rel : Rel K G H env σ F) (hR : ∀ a ∈ F, R a = none) (x0 : Ext G0 R G H)
    (e1 : slotT env i = some t) (e2 : T.at π t = some (.ml ts)) (hs : σ[i]? = some (some v0)) (hv : VAt H v0 π v) :
    ∃ a vs Fk, v = .ref a ∧ H a = some (.lst vs) ∧ TRs K G H ts vs Fk ∧ Fk.Nodup ∧
      ∀ ts' vs' Fk', TRs K G H ts' vs' Fk' → Fk'.Nodup → (∀ b ∈ Fk', b ∈ Fk) → ∃ t' F', T.put π t (.ml ts') = some t' ∧ Rel K G (upd H a (.lst vs')) (env.set i (some t')) σ F' ∧ (∀ a ∈ F', R a = none) ∧ Ext G0 R G (upd H a (.lst vs')) := by
  obtain ⟨v0', a, vs, Fk, h1, h2, h3, h4, h5, nd, h6⟩ := rel.lset (slotT_eq e1) e2
  have z0 : v0' = v0 := by
    have := h1.symm.trans hs
    cases this
    rfl
  subst z0
  have z1 := hv.det h2
  subst z1
  refine ⟨a, vs, Fk, rfl, h3, h4, nd, fun ts' vs' Fk' r' nd' sub => ?_⟩
  obtain ⟨t', F', p1, p2, p3⟩ := h6 ts' vs' Fk' r' nd' sub
  refine ⟨t', F', p1, p2, fun b hb => hR b (p3 b hb), ⟨x0.gg, fun b o z => ?_, p2.sm, x0.fr⟩⟩
  have : b ≠ a := fun q => by subst q; rw [hR b h5] at z; cases z
  rw [upd_ne this]
  exact x0.hh b o z
theorem psm_setPopAt {x : Str} {j : Nat} {pos' : Pos} (hN : X.N.Nodup) (ho : PP X o mp) (hi : PM X ie mi) (hj : X.N[j]? = some x := by rfl) (hx : Loc X.env.scope x := by first | exact Or.inl rfl | exact Or.inr rfl) (hbase : attributeBase o "pop" X.env (eval o X.env) = eval o X.env := by rfl)
    (hfew : ((backTo cpos (starEach [ie] X.env)).all (fun x => !x.1) && (backToKw cpos (keywordEach [] X.env)).all (fun x => x.1.isSome)
      && decide ([ie].length + ([] : List Keyword).length + (if ([] : List Keyword).isEmpty then 0 else 1) < 30)) = true := by rfl)
    (hline : (apos.endLine == cpos.line) = true := by rfl) (hs : starEach [ie] X.env = (false, eval ie X.env) :: starEach [] X.env := by rfl) (hsw : swapsWith (.Call (.Attribute o "pop" apos) [ie] [] cpos) (some (.Name x pos')) pos.line X.env = pure false := by rfl)
    (hf : X.fn x = true ∨ X.env.scope.names.lookup x = some .local := by first | exact .inl rfl | exact .inr rfl | assumption) :
    PSM X (.Assign [.Name x pos'] (.Call (.Attribute o "pop" apos) [ie] [] cpos) pos) (sSetPopAt j mp mi) := by
  refine PS_imp (ps_set hN hj hx (pe_bm PySem.F.plainAttrs_list PySem.F.slot_list_pop PySem.F.type_list_pop mt_popAt ho (pam_cons hi pam_nil hs) hbase hfew hline hs rfl) hsw hf) fun D σ H h => ?_
  obtain ⟨G0, R, env, ⟨G, F, rel, hR, x0⟩, o, e, g⟩ := h
  simp only [sSetPopAt, Option.bind_eq_some_iff] at e
  obtain ⟨tk, ek, k, ek2, e⟩ := e
  split at e
  · rename_i hk
    rw [Option.map_eq_some_iff] at e
    obtain ⟨⟨env', d⟩, e3, rfl⟩ := e
    obtain ⟨i, π, t, ts, j, t', e4, e5, e6, e7, e8, e9, rfl⟩ := popN_eq e3
    refine ⟨G, env, F, rel, i, π, e4, fun v v0 H1 G1 x1 hs hv => ?_⟩
    obtain ⟨a, vs, Fk, rfl, ha, _⟩ := lst_at (rel.ext x1) hR (x0.trans x1) e5 e6 hs hv
    refine ⟨.inl ⟨rfl, vs, .inl (.inl ha)⟩, ?_⟩
    refine ⟨G1, env, F, rel.ext x1, [tk], by simp [aCons, aNil, ek], fun ws H2 G2 x2 r => ?_⟩
    obtain ⟨w0, F0, rfl, hw0⟩ := r.one
    obtain ⟨a', vs', Fk', z, ha', ht, nk, up⟩ := lst_atG ((rel.ext x1).ext x2) hR ((x0.trans x1).trans x2) e5 e6 hs (hv.mono x2.hh)
    cases z
    obtain ⟨s1, s2, s3, s4⟩ := ixN_seq e7
    obtain ⟨y, Fy, hy, ry⟩ := ht.args.get e8
    refine ⟨a, vs', k, j, y, rfl, by rw [hw0.int ek2], ha', by omega, by omega, by rw [ht.len]; exact s1, hy, ?_⟩
    obtain ⟨F4, q1, q2⟩ := ht.erase j
    obtain ⟨t'', F5, p1, p2, p3, p4⟩ := up _ _ _ q1 (nk.sublist q2) (fun b hb => q2.subset hb)
    rw [e9] at p1
    cases p1
    exact g _ _ (SR.putp p2 p3 p4 _ ry.pure)
  · cases e
theorem psm_setPop {x : Str} {j : Nat} {pos' : Pos} (hN : X.N.Nodup) (ho : PP X o mp) (hj : X.N[j]? = some x := by rfl) (hx : Loc X.env.scope x := by first | exact Or.inl rfl | exact Or.inr rfl) (hbase : attributeBase o "pop" X.env (eval o X.env) = eval o X.env := by rfl)
    (hline : (apos.endLine == cpos.line) = true := by rfl) (hsw : swapsWith (.Call (.Attribute o "pop" apos) [] [] cpos) (some (.Name x pos')) pos.line X.env = pure false := by rfl)
    (hf : X.fn x = true ∨ X.env.scope.names.lookup x = some .local := by first | exact .inl rfl | exact .inr rfl | assumption) :
    PSM X (.Assign [.Name x pos'] (.Call (.Attribute o "pop" apos) [] [] cpos) pos) (sSetPop j mp) := by
  refine PS_imp (ps_set hN hj hx (pe_bm0 PySem.F.plainAttrs_list PySem.F.slot_list_pop PySem.F.type_list_pop mt_pop ho hbase hline) hsw hf) fun D σ H h => ?_
  obtain ⟨G0, R, env, ⟨G, F, rel, hR, x0⟩, o, e, g⟩ := h
  simp only [sSetPop, Option.map_eq_some_iff] at e
  obtain ⟨⟨env', d⟩, e3, rfl⟩ := e
  obtain ⟨i, π, t, ts, j, t', e4, e5, e6, e7, e8, e9, rfl⟩ := popN_eq e3
  refine ⟨G, env, F, rel, i, π, e4, fun v v0 H1 G1 x1 hs hv => ?_⟩
  obtain ⟨a', vs', Fk', rfl, ha', ht, nk, up⟩ := lst_atG (rel.ext x1) hR (x0.trans x1) e5 e6 hs hv
  refine ⟨.inl ⟨rfl, vs', .inl (.inl ha')⟩, ?_⟩
  obtain ⟨s1, s2, s3, s4⟩ := ixN_seq e7
  have hj : j = ts.length - 1 := by
    unfold ixN at e7
    rw [if_neg (by omega), if_pos (by omega)] at e7
    cases e7
    omega
  obtain ⟨y, Fy, hy, ry⟩ := ht.args.get e8
  refine ⟨a', vs', y, rfl, rfl, ha', by rw [ht.len, ← hj]; exact hy, ?_⟩
  obtain ⟨F4, q1, q2⟩ := ht.erase j
  have hd : vs'.dropLast = vs'.eraseIdx j := by
    rw [hj, ← ht.len]
    exact (PyProof.Rows.Copied.eraseIdx_last vs').symm
  rw [hd]
  obtain ⟨t'', F5, p1, p2, p3, p4⟩ := up _ _ _ q1 (nk.sublist q2) (fun b hb => q2.subset hb)
  rw [e9] at p1
  cases p1
  exact g _ _ (SR.putp p2 p3 p4 _ ry.pure)
end

def tF (K : PySem.W.Frag) (m : EM) : TE := fun σ H Q => ∃ G env F, Rel K G H env σ F ∧ ∃ t, m env = some t ∧ ∀ v H' G' F', Ext G H G' H' → TR K G' H' t v F' → F'.Nodup → (∀ a ∈ F', G' a = none ∧ H a = none) → Q v H'
abbrev PF (X : Cx) (e : Expr) (m : EM) : Prop := PE X e (tF X.K m)
def tAF (K : PySem.W.Frag) (m : En → Option (List T)) : TA := fun σ H Q => ∃ G env F, Rel K G H env σ F ∧ ∃ ts, m env = some ts ∧ ∀ vs H' G' F', Ext G H G' H' → TRs K G' H' ts vs F' → F'.Nodup → (∀ a ∈ F', G' a = none ∧ H a = none) → Q vs H'
abbrev PAF (X : Cx) (es : List Expr) (m : En → Option (List T)) : Prop := PA X es (tAF X.K m)
section
variable {X : Cx} {pos : Pos} {e : Expr} {es : List Expr} {me : EM} {ms : En → Option (List T)}
def mPure (m : EM) : EM := fun env => (m env).bind fun t => t.pure?.map T.p
theorem pf_pure (h : PM X e me) : PF X e (mPure me) := by
  refine PE_imp h fun σ H Q h => ?_
  obtain ⟨G, env, F, rel, t, e1, q⟩ := h
  simp only [mPure, Option.bind_eq_some_iff, Option.map_eq_some_iff] at e1
  obtain ⟨u, e2, d, e3, rfl⟩ := e1
  exact ⟨G, env, F, rel, u, e2, fun v H' G' F' x r => q v H' G' [] x (.p (r.of_pure? e3)) .nil (fun _ z => nomatch z)⟩
theorem paf_nil : PAF X [] aNil := by
  refine PA_imp pa_nil fun σ H Q h => ?_
  obtain ⟨G, env, F, rel, ts, e, q⟩ := h
  cases e
  exact q [] H G [] (Ext.refl rel.sm) .nil .nil (fun _ z => nomatch z)
theorem Ext.not {G H G' H' : Hp} (x : Ext G H G' H') {a : Addr} (g : G a = none) (h : H a ≠ none) : G' a = none := by
  cases z : G' a with
  | none => rfl
  | some o =>
    rcases x.fr a (by rw [z]; exact Option.some_ne_none o) with w | w
    · exact absurd g w
    · exact absurd w h
theorem paf_cons (ha : PF X e me) (hr : PAF X es ms) (hs : starEach (e :: es) X.env = (false, eval e X.env) :: starEach es X.env := by rfl) : PAF X (e :: es) (aCons me ms) := by
  refine PA_imp (pa_cons ha hr hs) fun σ H Q h => ?_
  obtain ⟨G, env, F, rel, ts, e1, q⟩ := h
  simp only [aCons, Option.bind_eq_some_iff, Option.map_eq_some_iff] at e1
  obtain ⟨t, e2, tr, e3, rfl⟩ := e1
  refine ⟨G, env, F, rel, t, e2, fun x H1 G1 F1 x1 r1 n1 f1 => ?_⟩
  refine ⟨G1, env, F, rel.ext x1, tr, e3, fun ys H2 G2 F2 x2 r2 n2 f2 => ?_⟩
  refine q (x :: ys) H2 G2 (F1 ++ F2) (x1.trans x2) (.cons (r1.keep x2.gg (Keep.of x2.hh)) r2) (List.nodup_append.mpr ⟨n1, n2, fun a ha b hb z => ?_⟩) fun a ha => ?_
  · subst z
    exact r1.alive a ha (f2 a hb).2
  · rcases List.mem_append.mp ha with z | z
    · exact ⟨x2.not (f1 a z).1 (r1.alive a z), (f1 a z).2⟩
    · exact ⟨(f2 a z).1, x1.hh.free (f2 a z).2⟩
def mLstF (ms : En → Option (List T)) : EM := fun env => (ms env).bind fun ts => if ts.length ≤ LIM then some (.ml ts) else none
theorem pf_lst (h : PAF X es ms) : PF X (.List es pos) (mLstF ms) := by
  refine PE_imp (pe_lst h) fun σ H Q q => ?_
  obtain ⟨G, env, F, rel, t, e1, q⟩ := q
  simp only [mLstF, Option.bind_eq_some_iff] at e1
  obtain ⟨ts, e2, e4⟩ := e1
  split at e4
  · rename_i hz
    cases e4
    refine ⟨G, env, F, rel, ts, e2, fun vs H1 G1 F1 x1 r1 n1 f1 => ?_⟩
    refine ⟨by rw [r1.len]; exact Nat.le_trans hz LIM_line, fun p np => ?_⟩
    have x2 := Ext.fresh (o := .lst vs) x1.gh np
    refine q _ _ _ (p :: F1) (x1.trans x2) (.ml upd_same (r1.keep x2.gg (Keep.of x2.hh))) (List.nodup_cons.mpr ⟨fun z => r1.alive p z np, n1⟩) fun a ha => ?_
    rcases List.mem_cons.mp ha with z | z
    · subst z; exact ⟨x1.gh.free np, x1.hh.free np⟩
    · exact f1 a z
  · cases e4
/-- list(e) -/
def mListF (m : EM) : EM := fun env => (m env).bind fun t => t.any?.map fun ds => .ml (ds.map T.p)
theorem pf_list {p : Pos} (hg : Gl X "list") (hm : X.mg "list" = none) (he : PM X e me) (hs : starEach [e] X.env = (false, eval e X.env) :: starEach [] X.env := by rfl) : PF X (.Call (.Name "list" p) [e] [] pos) (mListF me) := by
  refine PE_imp (pe_callTy call_list_of hg hm boot_list (pam_cons he pam_nil hs) (by decide) (by decide) hs rfl) fun σ H Q h => ?_
  obtain ⟨G, env, F, rel, t, e1, q⟩ := h
  simp only [mListF, Option.bind_eq_some_iff, Option.map_eq_some_iff] at e1
  obtain ⟨u, e2, ds, e3, rfl⟩ := e1
  refine ⟨G, env, F, rel, [u], by simp [aCons, aNil, e2], fun vs H1 G1 x1 r => ?_⟩
  obtain ⟨v, F', rfl, h⟩ := r.one
  obtain ⟨a, vs, rfl, h1, p1⟩ := h.any x1.gh e3
  refine ⟨a, vs, rfl, h1, fun l nl => ?_⟩
  have x2 := Ext.fresh (o := .lst vs) x1.gh nl
  refine q _ _ _ [l] (x1.trans x2) (.ml upd_same (TRs.of_pures p1)) (by simp) fun b hb => ?_
  have : b = l := by simpa using hb
  subst this
  exact ⟨x1.gh.free nl, x1.hh.free nl⟩
/-- [c] * n, a + b: made lists -/
noncomputable def mRepF (a b : EM) : EM := fun env => (a env).bind fun x => (b env).bind fun y => x.lst?.bind fun xs => y.int?.bind fun j => if rep62 xs.length j then some (.ml ((List.replicate j.toNat xs).flatten.map T.p)) else none
variable {b : Expr} {mb : EM}
theorem pf_rep (ha : PM X e me) (hb : PM X b mb) : PF X (.BinOp e .Mult b pos) (mRepF me mb) := by
  refine PE_imp (pe_op op_rep ha hb) fun σ H Q h => ?_
  obtain ⟨G, env, F, rel, t, e1, q⟩ := h
  simp only [mRepF, Option.bind_eq_some_iff] at e1
  obtain ⟨x, e2, y, e3, xs, e4, j, e5, e6⟩ := e1
  split at e6
  · rename_i hz
    have hz : -(2 ^ 62) ≤ j ∧ j < 2 ^ 62 ∧ xs.length * j.toNat ≤ LIM := hz
    cases e6
    refine ⟨G, env, F, rel, x, e2, fun v H1 G1 F1 x1 r1 => ⟨G1, env, F, rel.ext x1, y, e3, fun w H2 G2 F2 x2 r2 => ?_⟩⟩
    obtain ⟨a, vs, rfl, h1, p1⟩ := (r1.keep x2.gg (Keep.of x2.hh)).lst x2.gh e4
    refine ⟨a, j, vs, rfl, r2.int e5, h1, by omega, by omega, by rw [p1.length]; exact Nat.le_trans hz.2.2 LIM_line, fun l nl => ?_⟩
    have x3 := Ext.fresh (o := .lst (List.replicate j.toNat vs).flatten) x2.gh nl
    refine q _ _ _ [l] ((x1.trans x2).trans x3) (.ml upd_same (TRs.of_pures (p1.rep _))) (by simp) fun c hc => ?_
    have : c = l := by simpa using hc
    subst this
    exact ⟨x2.gh.free nl, x1.hh.free (x2.hh.free nl)⟩
  · cases e6
/-- [..] of pure items, owned -/
def mLcF (mi : En → Option (List D)) (vs : List Nat) (g : D → En → Option En) (tt : En → Option Bool) (me : EM) : EM := fun env => (mi env).bind fun ds => (lcRun g tt me (wipeE env vs) ds).bind fun out => if out.length ≤ LIM then some (.ml (out.map T.p)) else none
def sSetF (i : Nat) (m : EM) : SM := fun env => (m env).map fun t => .nx (env.set i (some t))
theorem tSetF {K : PySem.W.Frag} {i : Nat} {m : EM} {D : Ends} {σ : L2.St} {H : Hp} (h : tS K (sSetF i m) D σ H) : tF K m σ H fun x H1 => gName i x σ H1 D.nx := by
  obtain ⟨G0, R, env, ⟨G, F, rel, hR, x0⟩, o, e, g⟩ := h
  simp only [sSetF, Option.map_eq_some_iff] at e
  obtain ⟨t, e1, rfl⟩ := e
  refine ⟨G, env, F, rel, t, e1, fun v H' G' F' x r nd fr => g _ H' ?_⟩
  have rel' := rel.ext x
  obtain ⟨F2, h1, h2, h3⟩ := ES.put r i rel'.es
  have dj : ∀ a ∈ F', a ∉ F := fun a ha z => (rel.fr a z).2 (fr a ha).2
  refine ⟨G', F2, ⟨h1, h3 rel.nd nd dj, fun a ha => ⟨?_, h1.alive a ha⟩, x.gh⟩, fun a ha => ?_, x0.trans x⟩
  · rcases h2 a ha with z | z
    · exact (fr a z).1
    · exact (rel'.fr a z).1
  · rcases h2 a ha with z | z
    · exact x0.hh.free (fr a z).2
    · exact hR a z
theorem psm_setF {i : Nat} {x : Str} {pos' : Pos} (hN : X.N.Nodup) (he : PF X e me) (hi : X.N[i]? = some x := by rfl) (hx : Loc X.env.scope x := by first | exact Or.inl rfl | exact Or.inr rfl) (hs : swapsWith e (some (.Name x pos')) pos.line X.env = pure false := by rfl) (hf : X.fn x = true ∨ X.env.scope.names.lookup x = some .local := by first | exact .inl rfl | exact .inr rfl | assumption) :
    PSM X (.Assign [.Name x pos'] e pos) (sSetF i me) := PS_imp (ps_set hN hi hx he hs hf) fun D σ H h => tSetF h
end
end M
namespace M
open PySem PySem.Spec PyProof.Rows L2

def lcRunT (g : D → En → Option En) (tt : En → Option Bool) (me : EM) (env : En) : List D → Option (List T)
  | [] => some []
  | d :: r => (g d env).bind fun e => (tt e).bind fun b => if b then (me e).bind fun t => (lcRunT g tt me env r).map fun ys => t :: ys else lcRunT g tt me env r
def mLcT (mi : En → Option (List D)) (vs : List Nat) (g : D → En → Option En) (tt : En → Option Bool) (me : EM) : EM := fun env => (mi env).bind fun ds => (lcRunT g tt me (wipeE env vs) ds).bind fun out => if out.length ≤ LIM then some (.ml out) else none
theorem tLcT {K : PySem.W.Frag} {fz : Bool} {mi : En → Option (List D)} {js vs : List Nat} {g : D → En → Option En} {tt : En → Option Bool} {me : EM} (hj : ∀ j ∈ js, j ∈ vs) {σ : L2.St} {H : Hp} {Q : VK} (h : tF K (mLcT mi vs g tt me) σ H Q) :
    tLc (iM K fz mi) (gM K js g) (tTM K tt) (tF K me) vs σ H Q := by
  obtain ⟨G, env, F, rel, t, e, q⟩ := h
  simp only [mLcT, Option.bind_eq_some_iff] at e
  obtain ⟨ds, e1, out, e2, e3⟩ := e
  split at e3
  · rename_i hz
    cases e3
    refine ⟨G, env, F, rel, ds, e1, fun J H1 G1 x1 wk => fun D nD => ?_⟩
    refine ⟨fun i m H2 => m = ds.length - i ∧ i ≤ ds.length ∧ ∃ G2 acc o1 o2 Fa, Ext G1 H1 G2 H2 ∧ G2 D = none ∧ H2 D = some (.lst acc) ∧ TRs K G2 H2 o1 acc Fa ∧ Fa.Nodup ∧ (∀ a ∈ Fa, G2 a = none ∧ H1 a = none ∧ a ≠ D) ∧ lcRunT g tt me (wipeE env vs) (ds.drop i) = some o2 ∧ out = o1 ++ o2, ?_, ?_⟩
    · refine ⟨ds.length, rfl, Nat.zero_le _, G1, [], [], out, [], Ext.fresh x1.gh nD, x1.gh.free nD, upd_same, .nil, .nil, (fun _ z => nomatch z), by simpa using e2, rfl⟩
    · rintro i m H2 ⟨rfl, hi, G2, acc, o1, o2, Fa, x2, gD, hD, ra, na, fa, e3, eo⟩
      have sB : Same (if fz then G1 else H1) H2 := by
        cases fz with
        | true => exact x2.gg.trans x2.gh
        | false => exact x2.hh
      by_cases hlt : i < ds.length
      · have ed : ds.drop i = ds[i] :: ds.drop (i + 1) := List.drop_eq_getElem_cons hlt
        rw [ed] at e3
        simp only [lcRunT, Option.bind_eq_some_iff] at e3
        obtain ⟨env1, e4, b, e5, e6⟩ := e3
        refine .inr ⟨wk.go i H2 sB hlt, fun H' => (i + 1 ≤ ds.length ∧ ∃ G2 acc o1 o2 Fa, Ext G1 H1 G2 H' ∧ G2 D = none ∧ H' D = some (.lst acc) ∧ TRs K G2 H' o1 acc Fa ∧ Fa.Nodup ∧ (∀ a ∈ Fa, G2 a = none ∧ H1 a = none ∧ a ≠ D) ∧ lcRunT g tt me (wipeE env vs) (ds.drop (i + 1)) = some o2 ∧ out = o1 ++ o2), fun H' w => ⟨ds.length - (i + 1), by omega, rfl, w.1, w.2⟩, fun x H3 y => ?_⟩
        obtain ⟨G3, x3, rd⟩ := wk.yld i H2 x H3 G2 ds[i] sB x2.gg x2.gh y (List.getElem?_eq_getElem hlt)
        have rel3 := (rel.ext x1).ext (x2.trans x3)
        obtain ⟨Fw, relw⟩ := rel3.wipe vs
        refine ⟨G3, wipeE env vs, Fw, ds[i], relw, rd, env1, e4, fun σ2 F2 rel4 _ ou => ⟨ou.wipe hj |>.trans ?_, ?_⟩⟩
        · apply List.ext_getElem?
          intro k
          rw [wipe_get, wipe_get]
          by_cases hk : k ∈ vs
          · rw [if_pos hk, if_pos hk, wipe_length]
          · rw [if_neg hk, if_neg hk]
        · refine ⟨G3, env1, F2, rel4, b, e5, fun H4 G4 x4 => ?_⟩
          have hD3 : H3 D = some (.lst acc) := x3.hh _ _ hD
          have g3 : G3 D = none := x3.not gD (by rw [hD]; exact Option.some_ne_none _)
          have g4 : G4 D = none := x4.not g3 (by rw [hD3]; exact Option.some_ne_none _)
          have hD4 : H4 D = some (.lst acc) := x4.hh _ _ hD3
          have x34 := x3.trans x4
          have ra4 := ra.keep x34.gg (Keep.of (F := Fa) x34.hh)
          have fa4 : ∀ a ∈ Fa, G4 a = none ∧ H1 a = none ∧ a ≠ D := fun a ha => ⟨x34.not (fa a ha).1 (ra.alive a ha), (fa a ha).2⟩
          cases b with
          | false =>
            rw [if_neg Bool.false_ne_true] at e6
            exact iteF ⟨hlt, G4, acc, o1, o2, Fa, (x2.trans x3).trans x4, g4, hD4, ra4, na, fa4, e6, eo⟩
          | true =>
            rw [if_pos rfl] at e6
            simp only [Option.bind_eq_some_iff, Option.map_eq_some_iff] at e6
            obtain ⟨t, e7, ys, e9, rfl⟩ := e6
            refine iteT ⟨G4, env1, F2, rel4.ext x4, t, e7, fun v H5 G5 F5 x5 r5 n5 f5 => ?_⟩
            have hD5 : H5 D = some (.lst acc) := x5.hh _ _ hD4
            have g5 : G5 D = none := x5.not g4 (by rw [hD4]; exact Option.some_ne_none _)
            have x25 := ((x2.trans x3).trans x4).trans x5
            have ra5 := ra4.keep x5.gg (Keep.of (F := Fa) x5.hh)
            have kp : ∀ L : List Addr, D ∉ L → Keep L H5 (upd H5 D (.lst (acc ++ [v]))) := fun L hL b hb o z => by
              rw [upd_ne (fun e => by subst e; exact hL hb)]; exact z
            have dF : D ∉ F5 := fun z => by
              have := (f5 D z).2
              rw [hD4] at this
              cases this
            refine ⟨acc, hD5, ?_, hlt, G5, acc ++ [v], o1 ++ [t], ys, Fa ++ (F5 ++ []), ⟨x25.gg, fun a o z => ?_, fun a o z => ?_, x25.fr⟩, g5, upd_same,
              (ra5.keep (Same.refl _) (kp Fa fun z => (fa D z).2.2 rfl)).append (.cons (r5.keep (Same.refl _) (kp F5 dF)) .nil), ?_, fun a ha => ?_, e9, by rw [eo, List.append_assoc]; rfl⟩
            · have l1 := ra5.len
              rw [eo] at hz
              simp only [List.length_append, List.length_cons] at hz
              have := LIM_line
              omega
            · have : a ≠ D := ne_of_none z nD
              rw [upd_ne this]
              exact x25.hh a o z
            · have : a ≠ D := ne_of_none z g5
              rw [upd_ne this]
              exact x25.gh a o z
            · rw [List.append_nil]
              exact List.nodup_append.mpr ⟨na, n5, fun a ha b hb z => by subst z; exact ra4.alive a ha (f5 a hb).2⟩
            · rw [List.append_nil] at ha
              rcases List.mem_append.mp ha with z | z
              · exact ⟨x5.not (fa4 a z).1 (ra4.alive a z), (fa a z).2⟩
              · refine ⟨(f5 a z).1, ?_, fun w => dF (w ▸ z)⟩
                exact ((x2.trans x3).trans x4).hh.free (f5 a z).2
      · have hi' : i = ds.length := by omega
        subst hi'
        rw [List.drop_length] at e3
        cases e3
        rw [List.append_nil] at eo
        subst eo
        refine .inl ⟨wk.stop _ H2 sB (Nat.le_refl _), q (.ref D) H2 G2 (D :: Fa) (x1.trans x2) (.ml hD ra) (List.nodup_cons.mpr ⟨fun z => (fa D z).2.2 rfl, na⟩) fun a ha => ?_⟩
        rcases List.mem_cons.mp ha with z | z
        · subst z; exact ⟨gD, x1.hh.free nD⟩
        · exact ⟨(fa a z).1, x1.hh.free (fa a z).2.1⟩
  · cases e3
section
variable {X : Cx} {pos : Pos}
theorem psm_setLcT {i : Nat} {y : Str} {py spos : Pos} {elt tg iter : Expr} {ifs : List Expr} {scope : Scope} {own : List (Str × Nat)} {fz : Bool} {mi : En → Option (List D)} {js : List Nat} {g : D → En → Option En} {tt : En → Option Bool} {me : EM} (hc : X.calm = true) (hN : X.N.Nodup)
    (hi : PIM X tg iter fz mi) (ok : BlkOk X.N X.env.scope scope own)
    (hg : ∀ (s : Shared) (H : Hp) (C : Addr) (cl : List (Str × Addr)) (fp : List Addr), GM (X.blk s H scope (compEnvC scope cl C X.env) fp) tg js g) (ht : ∀ (s : Shared) (H : Hp) (C : Addr) (cl : List (Str × Addr)) (fp : List Addr), PTsM (X.blk s H scope (compEnvC scope cl C X.env) fp) ifs tt)
    (he : ∀ (s : Shared) (H : Hp) (C : Addr) (cl : List (Str × Addr)) (fp : List Addr), PF (X.blk s H scope (compEnvC scope cl C X.env) fp) elt me)
    (hsw : swapsWith (.ListComp elt [⟨tg, iter, ifs, 0⟩] scope pos) (some (.Name y py)) spos.line X.env = pure true) (hy : X.N[i]? = some y := by rfl) (hyl : X.env.scope.names.lookup y = some .local := by rfl)
    (hj : ∀ j ∈ js, j ∈ own.map (·.2) := by decide) (hs : ∀ x, foldedSetIterable iter X.env x = pure x := by intro _; rfl) :
    PSM X (.Assign [.Name y py] (.ListComp elt [⟨tg, iter, ifs, 0⟩] scope pos) spos) (sSetF i (mLcT mi (own.map (·.2)) g tt me)) :=
  PS_imp (ps_setLc hc hN hy hyl hsw hi ok hg ht he hs) fun D σ H h => tLcT hj (tSetF h)
end

inductive PArgs (K : PySem.W.Frag) (G H : Hp) : List T → List V → Prop
  | nil : PArgs K G H [] []
  | cons {t : T} {v : V} {ts : List T} {vs : List V} : TR K G H t v [] → PArgs K G H ts vs → PArgs K G H (t :: ts) (v :: vs)
theorem PArgs.es {K : PySem.W.Frag} {G H : Hp} : ∀ {ts : List T} {vs : List V} (n : Nat), PArgs K G H ts vs → ES K G H (ts.map some ++ List.replicate n none) (vs.map some ++ List.replicate n none) []
  | _, _, 0, .nil => .nil
  | _, _, n + 1, .nil => .no (PArgs.es n .nil)
  | _, _, n, .cons h r => by
    have q := ES.so h (PArgs.es n r)
    exact q
theorem PArgs.length {K : PySem.W.Frag} {G H : Hp} : ∀ {ts : List T} {vs : List V}, PArgs K G H ts vs → ts.length = vs.length
  | _, _, .nil => rfl
  | _, _, .cons _ r => by simp [r.length]
def startE (n : Nat) (ts : List T) : En := ts.map some ++ List.replicate (n - ts.length) none
def runFn (n : Nat) (body : SM) : List T → Option T := fun ts => (body (startE n ts)).bind fun o => match o with
  | .rt t => some t
  | .nx _ => some (.p .none)
  | _ => none
def spT (K : PySem.W.Frag) (np : Nat) (fn : List T → Option T) : Sp := fun vs H Q _ => vs.length = np ∧ ∃ G ts, Same G H ∧ PArgs K G H ts vs ∧ ∃ t, fn ts = some t ∧ ∀ v H', RR K G H t v H' → Q v H'
theorem fn_ok {P : Program} {w : World} {K : PySem.W.Frag} {mg : Str → Option Value} {base : Heap} {x qual : Str} {st : Stmt} {f : Addr} {fd : FuncData} {N ps : List Str} {k : Nat} {body : SM} (F : Fun K x qual st f fd) (S : FnScope N ps (defScope st))
    (hb : ∀ (cdv : Value) (A : Around) (outer : List Env) (s : Shared) (H : Hp) (E : XK), Room k (A.deeper (envOfC qual (defScope st) s.heap.objs.size f cdv)) → PSsM (cxOf CX0 P w K mg base N qual (defScope st) f cdv A outer s H E).nox (defBody st) body) :
    FnOk P w K mg base CX0 (k + 1) f fd ps (spT K ps.length (runFn N.length body)) := by
  refine F.ok S (fun vs H Q E h => h.1) fun cdv A outer s H vs Q E hr h => ⟨_, hb cdv A outer s H E hr, ?_⟩
  obtain ⟨hl, G, ts, sg, pa, t, e, q⟩ := h
  simp only [runFn, Option.bind_eq_some_iff] at e
  obtain ⟨o, e1, e2⟩ := e
  have es := pa.es (N.length - vs.length)
  refine ⟨G, H, startE N.length ts, ⟨G, [], ⟨?_, .nil, (fun _ z => nomatch z), sg⟩, (fun _ z => nomatch z), Ext.refl sg⟩, o, e1, ?_⟩
  · unfold startE L2.start
    rw [pa.length]
    exact es
  · cases o with
    | nx e =>
      cases e2
      rintro σ' H' ⟨G', F', rel, _, x⟩
      exact q _ H' ⟨G', [], x, .p .non, .nil, fun _ z => nomatch z⟩
    | rt u => cases e2; exact fun v H' r => q v H' r
    | bk e => cases e2
    | ct e => cases e2
def T.frozen : T → Bool
  | .p _ => true
  | .sc _ => true
  | _ => false
def T.view : T → Option T
  | .sc ns => some (.sc ns)
  | t => t.snap.map T.p
def views : List T → Option (List T)
  | [] => some []
  | t :: r => t.view.bind fun u => (views r).map fun us => u :: us
def callT (fn : List T → Option T) (ts : List T) : Option T :=
  if ts.all T.frozen then (fn ts).bind fun t => t.snap.map T.p
  else (views ts).bind fun us => (fn us).bind fun t => t.pure?.bind fun d => if flatD d then some (.p d) else none
theorem Args.frozen {K : PySem.W.Frag} {G H : Hp} : ∀ {ts : List T} {vs : List V}, Args K G H ts vs → ts.all T.frozen = true → PArgs K G H ts vs
  | _, _, .nil, _ => .nil
  | _, _, .cons (t := t) h r, e => by
    rw [List.all_cons, Bool.and_eq_true] at e
    refine .cons ?_ (r.frozen e.2)
    cases h with
    | p h => exact .p h
    | sc h => exact .sc h
    | _ => simp [T.frozen] at e
theorem Args.views {K : PySem.W.Frag} {G H : Hp} (s : Same G H) : ∀ {ts us : List T} {vs : List V}, Args K G H ts vs → M.views ts = some us → PArgs K H H us vs
  | _, _, _, .nil, e => by simp [M.views] at e; subst e; exact .nil
  | _, _, _, .cons (t := t) h r, e => by
    simp only [M.views, Option.bind_eq_some_iff, Option.map_eq_some_iff] at e
    obtain ⟨u, e1, us, e2, rfl⟩ := e
    refine .cons ?_ (r.views s e2)
    cases h with
    | sc h => simp [T.view] at e1; subst e1; exact .sc (s.seq h)
    | io _ _ => simp [T.view, T.snap] at e1
    | p h =>
      simp [T.view, T.snap] at e1; subst e1; exact .p (h.mono s)
    | ml h r =>
      simp only [T.view, Option.map_eq_some_iff] at e1
      obtain ⟨d, e3, rfl⟩ := e1
      exact .p ((TR.ml h r).live s e3)
    | tp h r =>
      simp only [T.view, Option.map_eq_some_iff] at e1
      obtain ⟨d, e3, rfl⟩ := e1
      exact .p ((TR.tp h r).live s e3)
    | md h r =>
      simp only [T.view, Option.map_eq_some_iff] at e1
      obtain ⟨d, e3, rfl⟩ := e1
      exact .p ((TR.md (G := G) h r).live s e3)
    | mk h r =>
      simp only [T.view, Option.map_eq_some_iff] at e1
      obtain ⟨d, e3, rfl⟩ := e1
      simp [T.snap] at e3
    | ob h h' r =>
      simp only [T.view, Option.map_eq_some_iff] at e1
      obtain ⟨d, e3, rfl⟩ := e1
      simp [T.snap] at e3
    | rf r =>
      simp only [T.view, Option.map_eq_some_iff] at e1
      obtain ⟨d, e3, rfl⟩ := e1
      exact .p ((TR.rf r).live s e3)
theorem TR.freeze {K : PySem.W.Frag} {G H : Hp} {t : T} {v : V} {F : List Addr} {d : D} (r : TR K G H t v F) (s : Same G H) (fr : ∀ a ∈ F, G a = none) (e : t.snap = some d) : ∃ G', Same G G' ∧ Same G' H ∧ Rp K G' v d ∧ ∀ a, G' a ≠ none → G a ≠ none ∨ a ∈ F := by
  refine ⟨fun a => if a ∈ F then H a else G a, fun a u z => ?_, fun a u z => ?_, ?_, fun a z => ?_⟩
  · show (if a ∈ F then H a else G a) = some u
    by_cases ha : a ∈ F
    · rw [fr a ha] at z; cases z
    · rw [if_neg ha]; exact z
  · have z' : (if a ∈ F then H a else G a) = some u := z
    by_cases ha : a ∈ F
    · rw [if_pos ha] at z'; exact z'
    · rw [if_neg ha] at z'; exact s a u z'
  · refine r.data (fun a u z => ?_) (fun a ha u z => ?_) e
    · show (if a ∈ F then H a else G a) = some u
      by_cases ha : a ∈ F
      · rw [fr a ha] at z; cases z
      · rw [if_neg ha]; exact z
    · show (if a ∈ F then H a else G a) = some u
      rw [if_pos ha]; exact z
  · have z' : (if a ∈ F then H a else G a) ≠ none := z
    by_cases ha : a ∈ F
    · exact .inr ha
    · rw [if_neg ha] at z'; exact .inl z'
section
variable {X : Cx} {k np : Nat} {f : Addr} {fd : FuncData} {ps : List Str} {fn : List T → Option T} {x : Str} {e : Expr} {es : List Expr} {ms : En → Option (List T)} {p pos : Pos}
theorem tCallM {K : PySem.W.Frag} {E : XK} (hnp : ∀ env ts, ms env = some ts → ts.length = np) {σ : L2.St} {H : Hp} {Q : VK} (h : tM K (mCall (callT fn) ms) σ H Q) : tCall (spT K np fn) [] E (tAM K ms) σ H Q := by
  obtain ⟨G, env, F, rel, t, e1, q⟩ := h
  simp only [mCall, Option.bind_eq_some_iff] at e1
  obtain ⟨ts, e2, e3⟩ := e1
  refine ⟨G, env, F, rel, ts, e2, fun vs H1 G1 x1 r1 => ?_⟩
  show spT K np fn (vs ++ []) H1 Q E
  rw [List.append_nil]
  refine ⟨by rw [← r1.length]; exact hnp env ts e2, ?_⟩
  unfold callT at e3
  split at e3
  · rename_i hf
    simp only [Option.bind_eq_some_iff, Option.map_eq_some_iff] at e3
    obtain ⟨u, e4, d, e5, rfl⟩ := e3
    refine ⟨G1, ts, x1.gh, r1.frozen hf, u, e4, fun v H' rr => ?_⟩
    obtain ⟨G2, F2, x2, r2, n2, f2⟩ := rr
    obtain ⟨G3, s1, s2, rp, fr⟩ := r2.freeze x2.gh (fun a ha => (f2 a ha).1) e5
    refine q v H' G3 [] (x1.trans ⟨x2.gg.trans s1, x2.hh, s2, fun a z => ?_⟩) (.p rp)
    rcases fr a z with w | w
    · exact x2.fr a w
    · exact .inr (f2 a w).2
  · simp only [Option.bind_eq_some_iff] at e3
    obtain ⟨us, e4, u, e5, d, e6, e7⟩ := e3
    split at e7
    · rename_i hd
      cases e7
      refine ⟨H1, us, Same.refl _, r1.views x1.gh e4, u, e5, fun v H' rr => ?_⟩
      obtain ⟨G2, F2, x2, r2, n2, f2⟩ := rr
      have rp := r2.of_pure? e6
      refine q v H' G1 [] (x1.trans ⟨Same.refl _, x2.hh, x1.gh.trans x2.hh, fun a z => .inl z⟩) (.p ?_)
      cases rp with
      | non => exact .non
      | bl b => exact .bl b
      | int i => exact .int i
      | str y => exact .str y
      | lst _ _ => simp [flatD] at hd
      | tup _ _ => simp [flatD] at hd
      | dct _ _ => simp [flatD] at hd
    · cases e7
theorem pm_call (F : FnOk X.prog X.w X.K X.mg X.base CX0 k f fd ps (spT X.K np fn)) (hr : Room k X.A) (hg : Gl X x) (hm : X.mg x = some (.ref f)) (hk : PySem.W.keepIn X.K (.ref f) = true) (hb : Binds X.K fd ps []) (ha : PAM X (e :: es) ms)
    (hnp : ∀ env ts, ms env = some ts → ts.length = np)
    (hd : (x == ("__debug__" : Str)) = false := by decide) (he : starEach (e :: es) X.env = (false, eval e X.env) :: starEach es X.env := by rfl) (hpl : (backTo pos (starEach es X.env)).any (·.1) = false := by rfl) :
    PM X (.Call (.Name x p) (e :: es) [] pos) (mCall (callT fn) ms) :=
  PE_imp (pe_call F hr hg hm hk hb .nil pass0 ha hd he hpl) fun _ _ _ h => tCallM hnp h
end
theorem len1 {a : EM} : ∀ env ts, aCons a aNil env = some ts → ts.length = 1 := fun env ts e => by
  simp only [aCons, aNil, Option.bind_eq_some_iff, Option.map_eq_some_iff] at e
  obtain ⟨_, _, _, e, rfl⟩ := e
  cases e; rfl
theorem lenS {a : EM} {ms : En → Option (List T)} {n : Nat} (h : ∀ env ts, ms env = some ts → ts.length = n) : ∀ env ts, aCons a ms env = some ts → ts.length = n + 1 := fun env ts e => by
  simp only [aCons, Option.bind_eq_some_iff, Option.map_eq_some_iff] at e
  obtain ⟨_, _, _, e, rfl⟩ := e
  simp [h _ _ e]
section
variable {X : Cx} {e : Expr} {me : EM} {pos : Pos}
def sRetF (m : EM) : SM := fun env => (m env).map .rt
/-- return x, x owned -/
def sRetV (i : Nat) : SM := fun env => (slotT env i).map .rt
theorem psm_retV (i : Nat) {x : Str} {p : Pos} (hN : X.N[i]? = some x := by rfl) (hv : Vis X.env.scope x := by first | exact Or.inl rfl | exact Or.inr (Or.inl rfl) | exact Or.inr (Or.inr rfl)) (hd : (x == ("__debug__" : Str)) = false := by decide)
    (hcd : (x == ("__classdict__" : Str)) = false := by decide) : PSM X (.Return (some (.Name x p)) pos) (sRetV i) := by
  refine PS_imp (ps_ret (pe_var hN hv hd hcd)) fun D σ H h => ?_
  obtain ⟨G0, R, env, ⟨G, F, rel, hR, x0⟩, o, e, g⟩ := h
  simp only [sRetV, Option.map_eq_some_iff] at e
  obtain ⟨t, e1, rfl⟩ := e
  obtain ⟨v, F1, Fa, Fb, h1, h2, h3, _⟩ := rel.es.split (slotT_eq e1)
  have m1 : ∀ a ∈ F1, a ∈ F := fun a ha => by rw [h3]; exact List.mem_append_right _ (List.mem_append_left _ ha)
  refine ⟨v, h1, g v H ⟨G, F1, x0, h2, ?_, fun a ha => ⟨(rel.fr a (m1 a ha)).1, hR a (m1 a ha)⟩⟩⟩
  have nd := rel.nd
  rw [h3] at nd
  exact (List.nodup_append.mp (List.nodup_append.mp nd).2.1).1
end
def spLaw (n : Nat) (K : PySem.W.Frag) : Sp := fun vs H Q _ => ∃ (a : Addr) (ns : List Int), vs = [.ref a] ∧ SqL K H a (ns.map V.int) ∧ ns.length ≤ n ∧ ∀ H', Q (.bl true) H'
theorem law_ok {P : Program} {w : World} {K : PySem.W.Frag} {mg : Str → Option Value} {base : Heap} {k n : Nat} {f : Addr} {fd : FuncData} {ps : List Str} {fn : List T → Option T} (F : FnOk P w K mg base CX0 k f fd ps (spT K 1 fn))
    (h : ∀ ns : List Int, ns.length ≤ n → fn [.sc ns] = some (.p (.bool true))) : FnOk P w K mg base CX0 k f fd ps (spLaw n K) := by
  refine F.imp fun vs H Q E hq => ?_
  obtain ⟨a, ns, rfl, hs, hn, q⟩ := hq
  refine ⟨rfl, H, [.sc ns], Same.refl _, .cons (.sc hs) .nil, _, h ns hn, fun v H' rr => ?_⟩
  obtain ⟨G, F, x, r, _⟩ := rr
  cases r.pure
  exact q H'
end M
namespace M
open PySem PySem.Spec PyProof.Rows L2
def FUEL : Nat := 1000000
theorem bt_len : bootBuiltins "len" = some (.builtin "len") := by decide +kernel
theorem bt_min : bootBuiltins "min" = some (.builtin "min") := by decide +kernel
theorem bt_all : bootBuiltins "all" = some (.builtin "all") := by decide +kernel
theorem bt_any : bootBuiltins "any" = some (.builtin "any") := by decide +kernel
theorem bt_sorted : bootBuiltins "sorted" = some (.builtin "sorted") := by decide +kernel
theorem bt_list : bootBuiltins "list" = some (.type "list") := by decide +kernel
theorem bt_tuple : bootBuiltins "tuple" = some (.type "tuple") := by decide +kernel
theorem bt_int : bootBuiltins "int" = some (.type "int") := by decide +kernel
theorem bt_bool : bootBuiltins "bool" = some (.type "bool") := by decide +kernel
end M
namespace M
open PySem PySem.Spec PyProof.Rows L2
section
variable {a b c : EM} {sa sb : SM} {env : En} {ba bb : En → Option Bool} {as : En → Option (List T)}
@[simp] theorem ev_sCons : sCons sa sb env = (sa env).bind fun o => match o with | .nx e => sb e | o => some o := rfl
@[simp] theorem ev_sNil : sNil env = some (.nx env) := rfl
@[simp] theorem ev_sPass : sPass env = some (.nx env) := rfl
@[simp] theorem ev_sBreak : sBreak env = some (.bk env) := rfl
@[simp] theorem ev_sContinue : sContinue env = some (.ct env) := rfl
@[simp] theorem ev_sIf : sIf ba sa sb env = (ba env).bind fun k => if k then sa env else sb env := rfl
@[simp] theorem ev_sExpr : sExpr a env = (a env).map fun _ => .nx env := rfl
@[simp] theorem ev_sRet : sRet a env = (a env).bind fun t => t.pure?.map fun d => .rt (.p d) := rfl
@[simp] theorem ev_sRetF : sRetF a env = (a env).map .rt := rfl
@[simp] theorem ev_sRetV {i : Nat} : sRetV i env = ((env[i]?).join).map .rt := rfl
@[simp] theorem ev_sSet {i : Nat} : sSet i a env = (a env).bind fun t => t.pure?.map fun d => .nx (env.set i (some (.p d))) := rfl
@[simp] theorem ev_sSetF {i : Nat} : sSetF i a env = (a env).map fun t => .nx (env.set i (some t)) := rfl
@[simp] theorem ev_sAsg {g : D → En → Option En} : sAsg g a env = (a env).bind fun t => t.pure?.bind fun d => (g d env).map .nx := rfl
@[simp] theorem ev_sFor {mi : En → Option (List D)} {g : D → En → Option En} : sFor mi g sa env = (mi env).bind fun ds => forRun g sa ds env := rfl
@[simp] theorem ev_sWhile {n : Nat} : sWhile n ba sa env = whileRun ba sa n env := rfl
@[simp] theorem ev_mVar {i : Nat} : mVar i env = ((env[i]?).join).map T.strip := rfl
@[simp] theorem ev_mC {d : D} : mC d env = some (.p d) := rfl
@[simp] theorem ev_mOp {f : T → T → Option T} : mOp f a b env = (a env).bind fun x => (b env).bind fun y => f x y := rfl
@[simp] theorem ev_mCall {f : List T → Option T} : mCall f as env = (as env).bind f := rfl
@[simp] theorem ev_aNil : aNil env = some [] := rfl
@[simp] theorem ev_aCons : aCons a as env = (a env).bind fun x => (as env).map fun xs => x :: xs := rfl
@[simp] theorem ev_bVal : bVal a env = (a env).bind T.bool? := rfl
@[simp] theorem ev_bOp {f : T → T → Option T} : bOp f a b env = ((a env).bind fun x => (b env).bind fun y => f x y).bind T.bool? := rfl
@[simp] theorem ev_bAnd : bAnd ba bb env = (ba env).bind fun x => if x then bb env else some false := rfl
@[simp] theorem ev_bOr : bOr ba bb env = (ba env).bind fun x => if x then some true else bb env := rfl
@[simp] theorem ev_bNot : bNot ba env = (ba env).map fun x => !x := rfl
@[simp] theorem ev_bYes : bYes env = some true := rfl
@[simp] theorem ev_mAnd : mAnd a b env = (a env).bind fun x => x.bool?.bind fun c => if c then b env else some (.p (.bool false)) := rfl
@[simp] theorem ev_mOr : mOr a b env = (a env).bind fun x => x.bool?.bind fun c => if c then some (.p (.bool true)) else b env := rfl
@[simp] theorem ev_mNot : mNot a env = (a env).bind fun x => x.bool?.map fun c => .p (.bool !c) := rfl
@[simp] theorem ev_mIf : mIf ba a b env = (ba env).bind fun x => if x then a env else b env := rfl
@[simp] theorem ev_mChain {f g : T → T → Option T} : mChain f g a b c env = (a env).bind fun x => (b env).bind fun y => (f x y).bind fun z => z.bool?.bind fun k => if k then (c env).bind fun u => g y u else some (.p (.bool false)) := rfl
@[simp] theorem ev_mTup : mTup as env = (as env).bind fun ts => (pures ts).bind fun ds => if ds.length ≤ LIM then some (.p (.tuple ds)) else none := rfl
@[simp] theorem ev_mLst : mLst as env = (as env).bind fun ts => (pures ts).bind fun ds => if ds.length ≤ LIM then some (.p (.list ds)) else none := rfl
@[simp] theorem ev_mLstF : mLstF as env = (as env).bind fun ts => if ts.length ≤ LIM then some (.ml ts) else none := rfl
@[simp] theorem ev_mPure : mPure a env = (a env).bind fun t => t.pure?.map T.p := rfl
@[simp] theorem ev_mNeg : mNeg a env = (a env).bind fun t => t.int?.map fun i => .p (.int (-i)) := rfl
@[simp] theorem ev_mSlice {lo hi : OM} : mSlice a lo hi env = (a env).bind fun t => (lo env).bind fun x => (hi env).bind fun y => sliceT t x y := rfl
@[simp] theorem ev_oNone : oNone env = some none := rfl
@[simp] theorem ev_oSome : oSome a env = (a env).bind fun t => t.int?.map some := rfl
@[simp] theorem ev_iSeq : iSeq a env = (a env).bind T.fz? := rfl
@[simp] theorem ev_iSeqB : iSeqB a env = (a env).bind T.any? := rfl
@[simp] theorem ev_iRng1 : M.iRng1 a env = (a env).bind fun t => t.int?.bind fun j => if smallI j then some (rangeD 0 j) else none := rfl
@[simp] theorem ev_iRng2 : M.iRng2 a b env = (a env).bind fun t => t.int?.bind fun i => (b env).bind fun u => u.int?.bind fun j => if smallI i ∧ smallI j then some (rangeD i j) else none := rfl
@[simp] theorem ev_iEn : iEn a env = (a env).bind fun t => t.fzl?.map fun xs => enumD 0 xs := rfl
@[simp] theorem ev_gNm {i : Nat} {d : D} : gNm i d env = some (env.set i (some (.p d))) := rfl
@[simp] theorem ev_gNl : gNl [] env = some env := rfl
@[simp] theorem ev_gCn {g : D → En → Option En} {gs : List D → En → Option En} {d : D} {r : List D} : gCn g gs (d :: r) env = (g d env).bind fun e => gs r e := rfl
@[simp] theorem ev_gTp {gs : List D → En → Option En} {ds : List D} : gTp gs (.tuple ds) env = gs ds env := rfl
@[simp] theorem ev_mLc {mi : En → Option (List D)} {vs : List Nat} {g : D → En → Option En} : mLc mi vs g ba a env = (mi env).bind fun ds => (lcRun g ba a (wipeE env vs) ds).bind fun out => if out.length ≤ LIM then some (.p (.list out)) else none := rfl
@[simp] theorem ev_mLcF {mi : En → Option (List D)} {vs : List Nat} {g : D → En → Option En} : mLcF mi vs g ba a env = (mi env).bind fun ds => (lcRun g ba a (wipeE env vs) ds).bind fun out => if out.length ≤ LIM then some (.ml (out.map T.p)) else none := rfl
@[simp] theorem ev_mLcT {mi : En → Option (List D)} {vs : List Nat} {g : D → En → Option En} : mLcT mi vs g ba a env = (mi env).bind fun ds => (lcRunT g ba a (wipeE env vs) ds).bind fun out => if out.length ≤ LIM then some (.ml out) else none := rfl
@[simp] theorem ev_mIsi {n : String} : mIsi n a env = (a env).bind (isiT n) := rfl
@[simp] theorem ev_mListF : mListF a env = (a env).bind fun t => t.any?.map fun ds => .ml (ds.map T.p) := rfl
@[simp] theorem ev_mListR1 : mListR1 a env = (a env).bind fun t => t.int?.bind fun j => if j ≤ 1000000 ∧ -1000000 ≤ j then some (.p (.list (rangeD 0 j))) else none := rfl
@[simp] theorem ev_mRepF : mRepF a b env = (a env).bind fun x => (b env).bind fun y => x.lst?.bind fun xs => y.int?.bind fun j => if rep62 xs.length j then some (.ml ((List.replicate j.toNat xs).flatten.map T.p)) else none := rfl
@[simp] theorem ev_sAppend {mp : PMm} : sAppend mp a env = (a env).bind fun y => y.pure?.bind fun d => (updAt mp (fun ts => if ts.length < LIM then some (ts ++ [.p d]) else none) env).map .nx := rfl
@[simp] theorem ev_sSetIx {mp : PMm} : sSetIx mp a b env = (a env).bind fun k => k.int?.bind fun k => (b env).bind fun y => y.pure?.bind fun d => (updAt mp (fun ts => setN ts k d) env).map .nx := rfl
@[simp] theorem ev_sPopAt {mp : PMm} : sPopAt mp a env = (a env).bind fun k => k.int?.bind fun k => if -(2 ^ 62) ≤ k ∧ k < 2 ^ 62 then (updAt mp (fun ts => (ixN ts.length k).map fun j => ts.eraseIdx j) env).map .nx else none := rfl
@[simp] theorem ev_sInsert {mp : PMm} : sInsert mp a b env = (a env).bind fun k => k.int?.bind fun k => (b env).bind fun y => y.pure?.bind fun d => (updAt mp (fun ts => insN ts k d) env).map .nx := rfl
@[simp] theorem ev_sFrz {i : Nat} : sFrz i sa env = (match env[i]? with | some (some t) => t.snap.bind fun d => sa (env.set i (some (.p d))) | _ => sa env) := rfl
@[simp] theorem ev_pVar {i : Nat} : pVar i env = (slotT env i).map fun _ => (i, []) := rfl
@[simp] theorem ev_slotT {i : Nat} : slotT env i = (env[i]?).join := rfl
@[simp] theorem ev_updAt {mp : PMm} {f : List T → Option (List T)} : updAt mp f env = (mp env).bind fun q => (slotT env q.1).bind fun t => (T.at q.2 t).bind fun u => match u with
  | .ml ts => (f ts).bind fun ts' => (T.put q.2 t (.ml ts')).map fun t' => env.set q.1 (some t')
  | _ => none := rfl
@[simp] theorem ev_pIx {mp : PMm} : pIx mp a env = (mp env).bind fun q => (a env).bind fun k => k.int?.bind fun k => (slotT env q.1).bind fun t => (T.at q.2 t).bind fun u => u.own?.bind fun ts => (ixN ts.length k).map fun j => (q.1, q.2 ++ [.ix j]) := rfl
@[simp] theorem ev_wipe0 : wipeE env [] = env := rfl
@[simp] theorem ev_wipe1 {v : Nat} {vs : List Nat} : wipeE env (v :: vs) = (wipeE env vs).set v none := rfl
end
section
variable {i j : Int} {d e : D} {ds es : List D} {ts us : List T} {x y : Bool} {t u : T}
@[simp] theorem ev_pure : (T.p d).pure? = some d := rfl
@[simp] theorem ev_int : (T.p (.int i)).int? = some i := rfl
@[simp] theorem ev_bool : (T.p (.bool x)).bool? = some x := rfl
@[simp] theorem ev_pures0 : pures [] = some [] := rfl
@[simp] theorem ev_pures1 : pures (t :: ts) = t.pure?.bind fun d => (pures ts).map fun ds => d :: ds := rfl
@[simp] theorem ev_snap : (T.p d).snap = some d := by simp [T.snap]
@[simp] theorem ev_add : addT (.p (.int i)) (.p (.int j)) = some (.p (.int (i + j))) := rfl
@[simp] theorem ev_sub : subT (.p (.int i)) (.p (.int j)) = some (.p (.int (i - j))) := rfl
@[simp] theorem ev_mul : mulT (.p (.int i)) (.p (.int j)) = if mulOk i j then some (.p (.int (i * j))) else none := rfl
@[simp] theorem ev_mod : modT (.p (.int i)) (.p (.int j)) = if j = 0 then none else some (.p (.int (i.fmod j))) := by
  unfold modT iOp
  simp only [ev_int, Option.bind_some]
  split <;> rfl
@[simp] theorem ev_fdiv : fdivT (.p (.int i)) (.p (.int j)) = if divOk j then some (.p (.int (i.fdiv j))) else none := by
  unfold fdivT iOp
  simp only [ev_int, Option.bind_some]
  split <;> rfl
@[simp] theorem ev_pow : powT (.p (.int i)) (.p (.int j)) = if 0 ≤ j ∧ j ≤ 1000000 ∧ i.natAbs < 2 ^ 64 then some (.p (.int (i ^ j.toNat))) else none := by
  unfold powT iOp
  simp only [ev_int, Option.bind_some]
  split <;> rfl
@[simp] theorem ev_lt : ltT (.p (.int i)) (.p (.int j)) = some (.p (.bool (decide (i < j)))) := rfl
@[simp] theorem ev_le : leT (.p (.int i)) (.p (.int j)) = some (.p (.bool (decide (i ≤ j)))) := rfl
@[simp] theorem ev_gt : gtT (.p (.int i)) (.p (.int j)) = some (.p (.bool (decide (j < i)))) := rfl
@[simp] theorem ev_ge : geT (.p (.int i)) (.p (.int j)) = some (.p (.bool (decide (j ≤ i)))) := rfl
theorem shaped_int : SeqAt.shaped (.int i) = true := by simp [SeqAt.shaped, PyData.canLay0, PyData.depth]
theorem shaped_bool : SeqAt.shaped (.bool x) = true := by simp [SeqAt.shaped, PyData.canLay0, PyData.depth]
@[simp] theorem ev_eqi : eqT (.p (.int i)) (.p (.int j)) = some (.p (.bool (decide (i = j)))) := by
  simp [eqT, shaped_int, PyData.eqv, Bool.beq_eq_decide_eq]
@[simp] theorem ev_nei : neT (.p (.int i)) (.p (.int j)) = some (.p (.bool (!decide (i = j)))) := by
  simp [neT, shaped_int, PyData.eqv, Bool.beq_eq_decide_eq]
@[simp] theorem ev_eqb : eqT (.p (.bool x)) (.p (.bool y)) = some (.p (.bool (x == y))) := by
  simp [eqT, shaped_bool, PyData.eqv]
@[simp] theorem ev_neb : neT (.p (.bool x)) (.p (.bool y)) = some (.p (.bool (!(x == y)))) := by
  simp [neT, shaped_bool, PyData.eqv]
@[simp] theorem ev_intT_i : intT [.p (.int i)] = some (.p (.int i)) := rfl
@[simp] theorem ev_intT_b : intT [.p (.bool x)] = some (.p (.int (if x then 1 else 0))) := rfl
@[simp] theorem ev_lenl : lenT [.p (.list ds)] = some (.p (.int ds.length)) := by simp [lenT, T.kids]
@[simp] theorem ev_lent : lenT [.p (.tuple ds)] = some (.p (.int ds.length)) := by simp [lenT, T.kids]
@[simp] theorem ev_lenm : lenT [.ml ts] = some (.p (.int ts.length)) := by simp [lenT, T.kids]
@[simp] theorem ev_lens {ns : List Int} : lenT [.sc ns] = some (.p (.int ns.length)) := by simp [lenT, T.kids]
@[simp] theorem ev_ixl : idxT (.p (.list ds)) (.p (.int i)) = (atI ds i).map T.p := by
  simp only [idxT, ev_int, Option.bind_some, T.kids, atI, List.length_map]
  cases ixN ds.length i with
  | none => rfl
  | some j => simp
@[simp] theorem ev_ixt : idxT (.p (.tuple ds)) (.p (.int i)) = (atI ds i).map T.p := by
  simp only [idxT, ev_int, Option.bind_some, T.kids, atI, List.length_map]
  cases ixN ds.length i with
  | none => rfl
  | some j => simp
@[simp] theorem ev_ixm : idxT (.ml ts) (.p (.int i)) = atI ts i := by simp [idxT, T.kids]
@[simp] theorem ev_ixp : idxT (.tp ts) (.p (.int i)) = atI ts i := by simp [idxT, T.kids]
@[simp] theorem ev_ixs {ns : List Int} : idxT (.sc ns) (.p (.int i)) = (atI ns i).map fun n => T.p (.int n) := by
  simp only [idxT, ev_int, Option.bind_some, T.kids, atI, List.length_map]
  cases ixN ns.length i with
  | none => rfl
  | some j => simp; rfl
@[simp] theorem ev_anyl : (T.p (.list ds)).any? = some ds := rfl
@[simp] theorem ev_anyt : (T.p (.tuple ds)).any? = some ds := rfl
@[simp] theorem ev_fzl : (T.p (.list ds)).fz? = some ds := rfl
@[simp] theorem ev_fzt : (T.p (.tuple ds)).fz? = some ds := rfl
@[simp] theorem ev_fzs {ns : List Int} : (T.sc ns).fz? = some (ns.map PyData.int) := rfl
@[simp] theorem ev_fzll : (T.p (.list ds)).fzl? = some ds := rfl
@[simp] theorem ev_seql : (T.p (.list ds)).seq? = some ds := rfl
@[simp] theorem ev_seqs {ns : List Int} : (T.sc ns).seq? = some (ns.map PyData.int) := rfl
@[simp] theorem ev_lstl : (T.p (.list ds)).lst? = some ds := rfl
@[simp] theorem ev_addl : addT (.p (.list ds)) (.p (.list es)) = if ds.length + es.length ≤ LIM then some (.p (.list (ds ++ es))) else none := rfl
@[simp] theorem ev_addt : addT (.p (.tuple ds)) (.p (.tuple es)) = if ds.length + es.length ≤ LIM then some (.p (.tuple (ds ++ es))) else none := rfl
@[simp] theorem ev_listl : listT [.p (.list ds)] = some (.p (.list ds)) := rfl
@[simp] theorem ev_listt : listT [.p (.tuple ds)] = some (.p (.list ds)) := rfl
@[simp] theorem ev_tuplel : tupleT [.p (.list ds)] = some (.p (.tuple ds)) := rfl
@[simp] theorem ev_slicel {lo hi : Option Int} : sliceT (.p (.list ds)) lo hi = some (.p (.list (cutL ds lo hi))) := rfl
@[simp] theorem ev_slicet {lo hi : Option Int} : sliceT (.p (.tuple ds)) lo hi = some (.p (.tuple (cutL ds lo hi))) := rfl
@[simp] theorem ev_slices {ns : List Int} {lo hi : Option Int} : sliceT (.sc ns) lo hi = some (.p (.list (cutL (ns.map PyData.int) lo hi))) := rfl
@[simp] theorem ev_min2 : minT [.p (.int i), .p (.int j)] = some (.p (.int (min i j))) := rfl
@[simp] theorem ev_max2 : maxT [.p (.int i), .p (.int j)] = some (.p (.int (max i j))) := rfl
@[simp] theorem ev_at0 : T.at [] t = some t.strip := rfl
@[simp] theorem ev_put0 : T.put [] t u = some (t.wrap u) := rfl
@[simp] theorem ev_own : (T.ml ts).own? = some ts := rfl
theorem snaps_ints (xs : List Int) : snaps (xs.map fun x => T.p (.int x)) = some (xs.map PyData.int) := by
  have := snaps_p (xs.map PyData.int)
  rw [List.map_map] at this
  exact this
end
theorem mulOk_l {i j : Int} (h : i.natAbs < 2 ^ 64) : mulOk i j = true := by simp [mulOk, h]
theorem mulOk_r {i j : Int} (h : j.natAbs < 2 ^ 64) : mulOk i j = true := by simp [mulOk, h]
theorem log2_small {n : Nat} (h : n < 2 ^ 64) : n.log2 < 9000 := by
  by_cases h0 : n = 0
  · subst h0; decide
  · exact (Nat.log2_lt h0).mpr (Nat.lt_of_lt_of_le h (Nat.pow_le_pow_right (by decide) (by decide)))
theorem divOk_small {j : Int} (h0 : j ≠ 0) (h : j.natAbs < 2 ^ 64) : divOk j = true := by
  simp [divOk, h0, log2_small h]
theorem atI_lt {α : Type} {xs : List α} {i : Int} (h0 : 0 ≤ i) (h1 : i < xs.length) : atI xs i = some (xs[i.toNat]'(by omega)) := by
  unfold atI ixN
  rw [if_pos h0, if_pos h1]
  simp
end M
namespace M
open PySem PySem.Spec PyProof.Rows L2

/-- each once -/
def ddup : List Int → List Int
  | [] => []
  | x :: r => if x ∈ ddup r then ddup r else x :: ddup r
theorem mem_ddup {k : Int} : ∀ {ns : List Int}, k ∈ ddup ns ↔ k ∈ ns
  | [] => Iff.rfl
  | x :: r => by
    unfold ddup
    split
    · rename_i h
      rw [mem_ddup, List.mem_cons]
      exact ⟨.inr, fun z => z.elim (fun z => by subst z; exact mem_ddup.mp h) id⟩
    · rw [List.mem_cons, List.mem_cons, mem_ddup]
theorem nodup_ddup : ∀ ns : List Int, (ddup ns).Nodup
  | [] => List.nodup_nil
  | x :: r => by
    unfold ddup
    split
    · exact nodup_ddup r
    · rename_i h
      exact List.nodup_cons.mpr ⟨h, nodup_ddup r⟩
theorem ddup_le : ∀ ns : List Int, (ddup ns).length ≤ ns.length
  | [] => Nat.le_refl _
  | x :: r => by
    have := ddup_le r
    unfold ddup
    split <;> simp only [List.length_cons] <;> omega
theorem ddup_eq : ∀ {ns : List Int}, (ddup ns).length = ns.length ↔ ns.Nodup
  | [] => by simp [ddup]
  | x :: r => by
    have h := ddup_le r
    rw [List.nodup_cons, ← ddup_eq (ns := r)]
    by_cases z : x ∈ ddup r
    · have z' := mem_ddup.mp z
      rw [ddup, if_pos z, List.length_cons]
      exact ⟨fun e => by omega, fun e => absurd z' e.1⟩
    · have z' : x ∉ r := fun y => z (mem_ddup.mpr y)
      rw [ddup, if_neg z, List.length_cons, List.length_cons]
      exact ⟨fun e => ⟨z', by omega⟩, fun e => by omega⟩
theorem size_ddup {es ns : List Int} (hn : es.Nodup) (hm : ∀ k, k ∈ es ↔ k ∈ ns) : es.length = (ddup ns).length :=
  ((List.perm_ext_iff_of_nodup hn (nodup_ddup ns)).mpr fun k => (hm k).trans mem_ddup.symm).length_eq
theorem nodup_step {l : List Int} {v : Int} (h : l.Nodup) : (step_dedup l v).Nodup := by
  unfold step_dedup
  split
  · exact h
  · rename_i z
    refine List.nodup_append.mpr ⟨h, by simp, fun a ha b hb => ?_⟩
    have hb' : b = v := by simpa using hb
    subst hb'
    intro e
    subst e
    exact z (List.any_eq_true.mpr ⟨a, ha, by simp⟩)
theorem nodup_firstMet (val : Nat → Int) : ∀ i, (firstMet val i).Nodup
  | 0 => List.nodup_nil
  | i + 1 => by rw [firstMet_succ]; exact nodup_step (nodup_firstMet val i)
theorem mem_firstMet (ns : List Int) (k : Int) : k ∈ firstMet (fun i => ns.getD i 0) ns.length ↔ k ∈ ns := by
  have h := firstMet_any (fun i => ns.getD i 0) ns.length k
  have e : (List.range ns.length).map (fun i => ns.getD i 0) = ns := by
    apply List.ext_getElem
    · simp
    · intro i h1 h2
      simp [List.getD, h2]
  rw [e] at h
  have a : ∀ l : List Int, l.any (· == k) = true ↔ k ∈ l := fun l => by simp
  rw [← a, ← a, h]

section
variable {X : Cx}
def lenSetT : List T → Option T
  | [t] => t.any?.bind fun ds => (intsOf ds).bind fun ns => if ns.length ≤ 4000 then some (.p (.int (ddup ns).length)) else none
  | _ => none
def tLenSetD (K : PySem.W.Frag) (ta : TE) : TE := fun σ H Q => ta σ H fun x H1 => ∃ (l : Addr) (ns : List Int), x = .ref l ∧ (SqL K H1 l (ns.map V.int) ∨ SqT K H1 l (ns.map V.int)) ∧ ns.length ≤ 4000 ∧ Q (.int ((ddup ns).length : Nat)) H1
theorem pe_lenSetD {a : Expr} {ta : TE} {p p2 q pos : Pos} (hg : Gl X "len") (hm : X.mg "len" = none) (hg2 : Gl X "set") (hm2 : X.mg "set" = none) (hc : X.calm = true) (ha : PE X a ta)
    (na : starEach [a] X.env = (false, eval a X.env) :: starEach [] X.env := by rfl) : PE X (.Call (.Name "len" p) [.Call (.Name "set" p2) [a] [] q] [] pos) (tLenSetD X.K ta) := by
  refine ⟨fun pins s σ H Q I h => Call_ (ld_blt I hg hm boot_len (callWith_builtin1 (args_cons (Call_ (ld_blt I hg2 hm2 boot_set (callWith_type1 (args_cons (thn (ha.run pins s σ H _ I h) fun v s1 z => args_nil ?_) na) na rfl))) rfl) rfl rfl))⟩
  obtain ⟨x, H1, I1, r1, l, ns, rfl, hq, hl, q1⟩ := z
  cases r1
  rcases hq with hq | hq
  · obtain ⟨its, r, pl, hz⟩ := I1.list hq
    have hlen : its.length = ns.length := by rw [← r.length, List.length_map]
    refine call_set_list (ns := ns) (I1.ok.hd hc) pl.isList (by simpa using r.ints) (by rw [List.size_toArray, hlen]; unfold scanBound; omega) fun h' tk hS hk => args_nil ?_
    rw [show its.toArray.size = ns.length by rw [List.size_toArray, hlen]] at hS
    obtain ⟨o, es, ep, t, ho, hex, hd, _, _, _, hf, hn⟩ := hS
    have hs := size_ddup (nodup_firstMet (fun i => ns.getD i 0) ns.length) (mem_firstMet ns)
    have hle := ddup_le ns
    have I2 : Inv X pins σ H1 { s1 with heap := h', toks := tk } := I1.kept fun b o e => hk b o (Heap.lt_size e) e
    exact call_len_set ho hex hd hf (by rw [hn, hs]; omega) ⟨.int ((ddup ns).length : Nat), H1, I2.tok _, ⟨_, by rw [hn, hs]⟩, q1⟩
  · obtain ⟨its, r, pl, hz⟩ := I1.tuple hq
    refine call_set_tupI ns (I1.ok.hd hc) pl (by simpa using r.ints) (by unfold scanBound; omega) fun h' tk c hS hcl hk => args_nil ?_
    obtain ⟨o, es, ep, t, ho, hex, hd, _, hnd, hmem, _, hf, hn, _⟩ := hS
    have hs := size_ddup (ns := ns) hnd fun k => by rw [← hmem k]; simp
    rw [List.length_map, Array.length_toList] at hs
    have hle := ddup_le ns
    have I2 : Inv X pins σ H1 { s1 with heap := h', toks := tk } := I1.kept hk
    exact call_len_set ho hex hd hf (by rw [hs]; omega) ⟨.int ((ddup ns).length : Nat), H1, I2.tok _, ⟨_, by rw [hs]⟩, q1⟩
theorem pm_lenSet {a : Expr} {m : EM} {p p2 q pos : Pos} (hg : Gl X "len") (hm : X.mg "len" = none) (hg2 : Gl X "set") (hm2 : X.mg "set" = none) (hc : X.calm = true) (ha : PM X a m)
    (na : starEach [a] X.env = (false, eval a X.env) :: starEach [] X.env := by rfl) : PM X (.Call (.Name "len" p) [.Call (.Name "set" p2) [a] [] q] [] pos) (mCall lenSetT (aCons m aNil)) := by
  refine PE_imp (pe_lenSetD hg hm hg2 hm2 hc ha na) fun σ H Q h => ?_
  obtain ⟨G, env, F, rel, t, e, k⟩ := h
  simp only [mCall, aCons, aNil, Option.bind_eq_some_iff, Option.map_eq_some_iff] at e
  obtain ⟨ts, ⟨u, e1, us, e2, rfl⟩, e3⟩ := e
  cases e2
  simp only [lenSetT, Option.bind_eq_some_iff] at e3
  obtain ⟨ds, e4, ns, e5, e6⟩ := e3
  split at e6
  · rename_i hz
    cases e6
    refine ⟨G, env, F, rel, u, e1, fun v H' G' F' x r => ?_⟩
    obtain ⟨a, vs, rfl, h1, p1⟩ := r.any x.gh e4
    rw [intsOf_eq e5] at p1
    rw [p1.ints] at h1
    exact ⟨a, ns, rfl, h1, hz, k _ _ _ [] x (.p (.int _))⟩
  · cases e6
def mOrL (ma mb : EM) : EM := fun env => (ma env).bind fun t => t.any?.bind fun ds => if ds.isEmpty = true then mb env else some t
@[simp] theorem ev_mOrL {ma mb : EM} {env : En} : mOrL ma mb env = (ma env).bind fun t => t.any?.bind fun ds => if ds.isEmpty = true then mb env else some t := rfl
theorem pm_orL {a b : Expr} {rest : List Expr} {pos : Pos} {ma mb : EM} (ha : PM X a ma) (hb : PM X (.BoolOp .Or (b :: rest) pos) mb) : PM X (.BoolOp .Or (a :: b :: rest) pos) (mOrL ma mb) := by
  refine PE_imp (pe_orT ha hb) fun σ H Q q => ?_
  obtain ⟨G, env, F, rel, t, e, q⟩ := q
  simp only [mOrL, Option.bind_eq_some_iff] at e
  obtain ⟨x, e1, ds, e2, e3⟩ := e
  refine ⟨G, env, F, rel, x, e1, fun v H' G' F' x1 r => ?_⟩
  obtain ⟨p, vs, rfl, h1, p1⟩ := r.any x1.gh e2
  have hl := p1.length
  have hb : vs.isEmpty = ds.isEmpty := by
    cases vs <;> cases ds <;> simp_all
  have ht : TruV X.K (.ref p) H' (!vs.isEmpty) := by
    rcases h1 with h1 | h1
    · exact .inl ⟨vs, h1, rfl⟩
    · exact .inr (.inl ⟨vs, h1, rfl⟩)
  refine ⟨!vs.isEmpty, ht, ?_⟩
  cases hd : ds.isEmpty with
  | true =>
    rw [hb, hd, if_neg (by decide)]
    rw [hd, if_pos rfl] at e3
    exact ⟨G', env, F, rel.ext x1, t, e3, fun v H2 G2 F2 x2 r2 => q v H2 G2 F2 (x1.trans x2) r2⟩
  | false =>
    rw [hb, hd, if_pos (by decide)]
    rw [hd, if_neg (by decide)] at e3
    cases e3
    exact q _ H' G' F' x1 r
end
end M
namespace M
open PySem PySem.Spec PyProof.Rows L2

theorem u1 {n : Nat} (h : n + 64 < cLine) : n + 1 < cLine := by omega
def keyOf? : D → Option Key
  | .int i => some (.inl i)
  | .str x => some (.inr x)
  | _ => none
theorem keyOf_keyD (k : Key) : keyOf? (keyD k) = some k := by cases k <;> rfl
def keysD : List (D × D) → Option (List (Key × D))
  | [] => some []
  | (k, d) :: r => (keyOf? k).bind fun k => (keysD r).map fun ds => (k, d) :: ds
def T.dct? : T → Option (List (Key × D))
  | .md ds => some ds
  | .mk _ _ _ ds => some ds
  | .p (.dict ps) => keysD ps
  | _ => none
def valD (ds : List (Key × D)) (k : Key) : Option D := (ds.find? fun kv => decide (kv.1 = k)).map (·.2)
def putD (ds : List (Key × D)) (k : Key) (d : D) : List (Key × D) :=
  if (ds.any fun kv => decide (kv.1 = k)) = true then ds.map (fun kv => if kv.1 = k then (kv.1, d) else kv) else ds ++ [(k, d)]
section
variable {K : PySem.W.Frag} {G H : Hp}
theorem Rp.key {v : V} {d : D} {k : Key} (r : Rp K G v d) (e : keyOf? d = some k) : v = kV k := by
  cases r <;> first | (cases e; rfl) | (simp [keyOf?] at e)
theorem Rpk.kr : ∀ {kvs : List (Key × V)} {ps : List (D × D)} {ds : List (Key × D)}, Rpk K G kvs ps → keysD ps = some ds → KR K G kvs ds
  | _, _, _, .nil, e => by cases e; exact .nil
  | _, _, _, .cons h r, e => by
    simp only [keysD, keyOf_keyD, Option.bind_some, Option.map_eq_some_iff] at e
    obtain ⟨ds, e1, rfl⟩ := e
    exact .cons h (r.kr e1)
theorem TR.dct {t : T} {v : V} {F : List Addr} {ds : List (Key × D)} (r : TR K G H t v F) (s : Same G H) (e : t.dct? = some ds) : ∃ a kvs, v = .ref a ∧ Rd H a (.dK kvs) ∧ KR K G kvs ds := by
  cases r with
  | p h =>
    cases h with
    | dct h r => exact ⟨_, _, rfl, .inl (s _ _ h), r.kr e⟩
    | _ => simp [T.dct?] at e
  | md h r => cases e; exact ⟨_, _, rfl, .inl h, r⟩
  | mk h r => cases e; exact ⟨_, _, rfl, .inr ⟨_, h⟩, r⟩
  | _ => simp [T.dct?] at e
theorem KR.val {k : Key} : ∀ {kvs : List (Key × V)} {ds : List (Key × D)}, KR K G kvs ds → (∀ d, valD ds k = some d → ∃ v, valV kvs k = some v ∧ Rp K G v d) ∧ (valD ds k).isSome = (valV kvs k).isSome
  | _, _, .nil => ⟨fun d e => by simp [valD] at e, rfl⟩
  | _, _, .cons (k := k0) (v := v0) (d := d0) h r => by
    obtain ⟨i1, i2⟩ := KR.val (k := k) r
    by_cases z : k0 = k
    · refine ⟨fun d e => ?_, ?_⟩
      · simp [valD, z] at e
        cases e
        exact ⟨v0, valV_pos z, h⟩
      · rw [valV_pos z]; simp [valD, z]
    · rw [valV_neg z]
      have q : ∀ r : List (Key × D), valD ((k0, d0) :: r) k = valD r k := fun r => by simp [valD, z]
      rw [q]
      exact ⟨i1, i2⟩
theorem KR.any {k : Key} : ∀ {kvs : List (Key × V)} {ds : List (Key × D)}, KR K G kvs ds → (kvs.any fun kv => decide (kv.1 = k)) = (ds.any fun kv => decide (kv.1 = k))
  | _, _, .nil => rfl
  | _, _, .cons _ r => by simp only [List.any_cons]; rw [KR.any r]
theorem KR.repl {k : Key} {v : V} {d : D} (q : Rp K G v d) : ∀ {kvs : List (Key × V)} {ds : List (Key × D)}, KR K G kvs ds → KR K G (kvs.map fun kv => if kv.1 = k then (kv.1, v) else kv) (ds.map fun kv => if kv.1 = k then (kv.1, d) else kv)
  | _, _, .nil => .nil
  | _, _, .cons (k := k0) h r => by
    simp only [List.map_cons]
    by_cases z : k0 = k
    · rw [if_pos z, if_pos z]; exact .cons q (KR.repl q r)
    · rw [if_neg z, if_neg z]; exact .cons h (KR.repl q r)
theorem KR.snoc {k : Key} {v : V} {d : D} (q : Rp K G v d) : ∀ {kvs : List (Key × V)} {ds : List (Key × D)}, KR K G kvs ds → KR K G (kvs ++ [(k, v)]) (ds ++ [(k, d)])
  | _, _, .nil => .cons q .nil
  | _, _, .cons h r => .cons h (KR.snoc q r)
theorem KR.put {k : Key} {v : V} {d : D} (q : Rp K G v d) {kvs : List (Key × V)} {ds : List (Key × D)} (r : KR K G kvs ds) : KR K G (putK kvs k v) (putD ds k d) := by
  unfold putK putD
  rw [r.any]
  split
  · exact r.repl q
  · exact r.snoc q
theorem KR.get : ∀ {kvs : List (Key × V)} {ds : List (Key × D)} {i : Nat} {k : Key} {v : V}, KR K G kvs ds → kvs[i]? = some (k, v) → ∃ d, ds[i]? = some (k, d)
  | _, _, _, _, _, .nil, e => by simp at e
  | _, _, 0, _, _, .cons h r, e => by simp at e; obtain ⟨rfl, rfl⟩ := e; exact ⟨_, rfl⟩
  | _, _, i + 1, k, v, .cons h r, e => by
    obtain ⟨d, h1⟩ := KR.get (i := i) r (by simpa using e)
    exact ⟨d, by simpa using h1⟩
end

def mDNew : EM := fun _ => some (.md [])
def mDOne (a b : EM) : EM := fun env => (a env).bind fun x => x.pure?.bind fun c => (keyOf? c).bind fun k => (b env).bind fun y => y.pure?.map fun d => .md [(k, d)]
def dGetT : T → T → Option T := fun t u => t.dct?.bind fun ds => u.pure?.bind fun c => (keyOf? c).bind fun k => (valD ds k).map T.p
def dInT : T → T → Option T := fun u t => u.pure?.bind fun c => (keyOf? c).bind fun k => t.dct?.map fun ds => .p (.bool (valD ds k).isSome)
def dNotInT : T → T → Option T := fun u t => u.pure?.bind fun c => (keyOf? c).bind fun k => t.dct?.map fun ds => .p (.bool (!(valD ds k).isSome))
section
variable {X : Cx} {pos : Pos} {a b : Expr} {ma mb : EM}
theorem pf_dnew : PF X (.Dict [] [] pos) mDNew := by
  refine PE_imp pe_dnewK fun σ H Q h => ?_
  obtain ⟨G, env, F, rel, t, e, q⟩ := h
  cases e
  intro p hp
  have x := Ext.fresh (o := .dK []) rel.sm hp
  refine q _ _ _ [p] x (.md upd_same .nil) (by simp) fun c hc => ?_
  have : c = p := by simpa using hc
  subst this
  exact ⟨rel.sm.free hp, hp⟩
theorem mergeK_one (k : Key) (v : V) : mergeK [] [(k, v)] = [(k, v)] := by simp [mergeK, putK]
theorem pf_done (ha : PM X a ma) (hb : PM X b mb) : PF X (.Dict [some a] [b] pos) (mDOne ma mb) := by
  refine PE_imp (pe_disp (pps_cons ha hb pps_nil) (by rfl) (by rfl) (fun z => by cases z) (by show 1 ≤ 15; decide)) fun σ H Q h => ?_
  obtain ⟨G, env, F, rel, t, e, q⟩ := h
  simp only [mDOne, Option.bind_eq_some_iff, Option.map_eq_some_iff] at e
  obtain ⟨x, e1, c, e2, k, e3, y, e4, d, e5, rfl⟩ := e
  intro p hp
  have x0 := Ext.fresh (o := .dK []) rel.sm hp
  refine ⟨G, env, F, rel.ext x0, x, e1, fun v H1 G1 F1 x1 r1 => ?_⟩
  refine ⟨G1, env, F, (rel.ext x0).ext x1, y, e4, fun w H2 G2 F2 x2 r2 => ?_⟩
  have hk : v = kV k := (r1.of_pure? e2).key e3
  have hp2 : H2 p = some (.dK []) := x2.hh _ _ (x1.hh _ _ upd_same)
  have x02 := (x0.trans x1).trans x2
  have hg : G2 p = none := (x1.trans x2).not (rel.sm.free hp) (by rw [upd_same]; simp)
  refine ⟨hp2, [(k, w)], by rw [hk]; rfl, by show 1 ≤ 15; decide, ?_⟩
  rw [mergeK_one]
  have x3 : Ext G H G2 (upd H2 p (.dK [(k, w)])) := ⟨x02.gg, fun c o z => ?_, fun c o z => ?_, x02.fr⟩
  · refine q _ _ _ [p] x3 (.md upd_same (.cons (r2.of_pure? e5) .nil)) (by simp) fun c hc => ?_
    have : c = p := by simpa using hc
    subst this
    exact ⟨hg, hp⟩
  · have : c ≠ p := fun y => by subst y; rw [hp] at z; cases z
    rw [upd_ne this]; exact x02.hh _ _ z
  · have : c ≠ p := fun y => by subst y; rw [hg] at z; cases z
    rw [upd_ne this]; exact x02.gh _ _ z
theorem pm_dget (hu : X.A.units + 1 < cLine) (ha : PM X a ma) (hb : PM X b mb) (hs : NoSl b) : PM X (.Subscript a b pos) (mOp dGetT ma mb) := by
  refine PE_imp (pe_dget hu ha hb hs) fun σ H Q h => ?_
  obtain ⟨G, env, F, rel, t, e, q⟩ := h
  simp only [mOp, dGetT, Option.bind_eq_some_iff, Option.map_eq_some_iff] at e
  obtain ⟨x, e1, y, e2, ds, e3, c, e4, k, e5, d, e6, rfl⟩ := e
  refine ⟨G, env, F, rel, x, e1, fun v H1 G1 F1 x1 r1 => ?_⟩
  refine ⟨G1, env, F, rel.ext x1, y, e2, fun w H2 G2 F2 x2 r2 => ?_⟩
  obtain ⟨p, kvs, rfl, hd, kr⟩ := (r1.keep x2.gg (Keep.of x2.hh)).dct x2.gh e3
  obtain ⟨u, h1, h2⟩ := kr.val.1 d e6
  exact ⟨p, u, rfl, .inl ⟨kvs, k, hd, (r2.of_pure? e4).key e5, h1.symm⟩, q u H2 G2 [] (x1.trans x2) (.p h2)⟩
theorem pm_din (hu : X.A.units + 1 < cLine) (ha : PM X a ma) (hb : PM X b mb) (h1 : behindInMarks .In b = false := by rfl) : PM X (.Compare a [.In] [b] pos) (mOp dInT ma mb) := by
  refine PE_imp (pe_cmp (pc_din hu ha hb) h1) fun σ H Q h => ?_
  obtain ⟨G, env, F, rel, t, e, q⟩ := h
  simp only [mOp, dInT, Option.bind_eq_some_iff, Option.map_eq_some_iff] at e
  obtain ⟨x, e1, y, e2, c, e4, k, e5, ds, e3, rfl⟩ := e
  refine ⟨G, env, F, rel, x, e1, fun v H1 G1 F1 x1 r1 => ?_⟩
  refine ⟨G1, env, F, rel.ext x1, y, e2, fun w H2 G2 F2 x2 r2 => ?_⟩
  obtain ⟨p, kvs, rfl, hd, kr⟩ := r2.dct x2.gh e3
  refine ⟨p, _, rfl, .inl ⟨kvs, k, hd, (r1.of_pure? e4).key e5, rfl⟩, ?_⟩
  rw [← kr.val.2]
  exact q _ H2 G2 [] (x1.trans x2) (.p (.bl _))
theorem pm_dnotin (hu : X.A.units + 1 < cLine) (ha : PM X a ma) (hb : PM X b mb) (h1 : behindInMarks .NotIn b = false := by rfl) : PM X (.Compare a [.NotIn] [b] pos) (mOp dNotInT ma mb) := by
  refine PE_imp (pe_cmp (pc_dnotin hu ha hb) h1) fun σ H Q h => ?_
  obtain ⟨G, env, F, rel, t, e, q⟩ := h
  simp only [mOp, dNotInT, Option.bind_eq_some_iff, Option.map_eq_some_iff] at e
  obtain ⟨x, e1, y, e2, c, e4, k, e5, ds, e3, rfl⟩ := e
  refine ⟨G, env, F, rel, x, e1, fun v H1 G1 F1 x1 r1 => ?_⟩
  refine ⟨G1, env, F, rel.ext x1, y, e2, fun w H2 G2 F2 x2 r2 => ?_⟩
  obtain ⟨p, kvs, rfl, hd, kr⟩ := r2.dct x2.gh e3
  refine ⟨p, _, rfl, .inl ⟨kvs, k, hd, (r1.of_pure? e4).key e5, rfl⟩, ?_⟩
  rw [← kr.val.2]
  exact q _ H2 G2 [] (x1.trans x2) (.p (.bl _))
theorem ptm_dnotin (hu : X.A.units + 1 < cLine) (ha : PM X a ma) (hb : PM X b mb) (h1 : behindInMarks .NotIn b = false := by rfl) : PTM X (.Compare a [.NotIn] [b] pos) (bOp dNotInT ma mb) := by
  refine PT_imp (pt_cmp (pc_dnotin hu ha hb) h1) fun σ H Q h => ?_
  obtain ⟨G, env, F, rel, t, e, q⟩ := h
  simp only [bOp, bVal, mOp, dNotInT, Option.bind_eq_some_iff, Option.map_eq_some_iff] at e
  obtain ⟨z, ⟨x, e1, y, e2, c, e4, k, e5, ds, e3, rfl⟩, e6⟩ := e
  cases e6
  refine ⟨G, env, F, rel, x, e1, fun v H1 G1 F1 x1 r1 => ?_⟩
  refine ⟨G1, env, F, rel.ext x1, y, e2, fun w H2 G2 F2 x2 r2 => ?_⟩
  obtain ⟨p, kvs, rfl, hd, kr⟩ := r2.dct x2.gh e3
  refine ⟨p, _, rfl, .inl ⟨kvs, k, hd, (r1.of_pure? e4).key e5, rfl⟩, _, rfl, ?_⟩
  rw [← kr.val.2]
  exact q H2 G2 (x1.trans x2)
end
theorem md_at {K : PySem.W.Frag} {G0 R G H : Hp} {env : En} {σ : L2.St} {F : List Addr} {i : Nat} {t : T} {v0 : V} (rel : Rel K G H env σ F) (hR : ∀ a ∈ F, R a = none) (x0 : Ext G0 R G H)
    (e1 : env[i]? = some (some t)) (hs : σ[i]? = some (some v0)) (ht : (∃ ds, t.strip = .md ds) ∨ ∃ a od kvs ds, t.strip = .mk a od kvs ds) :
    ∃ a, v0 = .ref a ∧ TR K G H t.strip (.ref a) [a] ∧ ∀ ho t', TR K G (upd H a ho) t' (.ref a) [a] → SR K G0 R (env.set i (some (t.wrap t'))) σ (upd H a ho) := by
  obtain ⟨v0', v, F1, Fo, h1, h2, h3, h4, h5, h6, h7⟩ := rel.mut e1 (show T.at [] t = some t.strip from rfl)
  have z0 : v0' = v0 := by
    have := h1.symm.trans hs
    cases this
    rfl
  subst z0
  cases h2
  have hF : ∃ a, v0' = .ref a ∧ F1 = [a] := by
    rcases ht with ⟨ds, hz⟩ | ⟨a, od, kvs, ds, hz⟩
    · rw [hz] at h3
      cases h3 with
      | md h r => exact ⟨_, rfl, rfl⟩
    · rw [hz] at h3
      cases h3 with
      | mk h r => exact ⟨_, rfl, rfl⟩
  obtain ⟨a, rfl, rfl⟩ := hF
  refine ⟨a, rfl, h3, fun ho t' r' => ?_⟩
  have haF : a ∈ F := h4 a List.mem_cons_self
  have hGa := (rel.fr a haF).1
  have sm : Same G (upd H a ho) := fun b o z => by
    have : b ≠ a := fun y => by subst y; rw [hGa] at z; cases z
    rw [upd_ne this]; exact rel.sm _ _ z
  have hna : a ∉ Fo := fun z => (h6 a z).2 List.mem_cons_self
  obtain ⟨t'', F', p1, p2, p3⟩ := h7 G (upd H a ho) t' [a] (Same.refl G) sm (fun b hb o z => by
    have : b ≠ a := fun y => by subst y; exact hna hb
    rw [upd_ne this]; exact z) r' (by simp) (fun b hb => by
      have : b = a := by simpa using hb
      subst this; exact ⟨hGa, hna⟩) (fun b hb => (rel.fr b (h6 b hb).1).1)
  cases p1
  refine ⟨G, F', p2, fun b hb => ?_, x0.gg, fun b o z => ?_, sm, x0.fr⟩
  · rcases p3 b hb with z | z
    · have : b = a := by simpa using z
      subst this; exact hR _ haF
    · exact hR _ (h6 b z).1
  · have : b ≠ a := fun y => by subst y; rw [hR _ haF] at z; cases z
    rw [upd_ne this]; exact x0.hh _ _ z
def sDPut (i : Nat) (mk mv : EM) : SM := fun env => (mv env).bind fun y => y.pure?.bind fun d => (mk env).bind fun u => u.pure?.bind fun c => (keyOf? c).bind fun k => (slotT env i).bind fun t => match t.strip with
  | .md ds => if ds.length < LIM then some (.nx (env.set i (some (t.wrap (.md (putD ds k d)))))) else none
  | _ => none
section
variable {X : Cx} {pos pos' npos : Pos} {e ie : Expr} {mk mv : EM}
theorem psm_dput (i : Nat) {x : Str} (hu : X.A.units + 1 < cLine) (hi : PM X ie mk) (hv : PM X e mv) (hN : X.N[i]? = some x := by rfl) (hvis : Vis X.env.scope x := by first | exact Or.inl rfl | exact Or.inr (Or.inl rfl) | exact Or.inr (Or.inr rfl)) (hd : (x == ("__debug__" : Str)) = false := by decide)
    (hcd : (x == ("__classdict__" : Str)) = false := by decide) (hs : swapsWith e (some (.Subscript (.Name x npos) ie pos')) pos.line X.env = pure false := by rfl) : PSM X (.Assign [.Subscript (.Name x npos) ie pos'] e pos) (sDPut i mk mv) := by
  refine PS_imp (ps_dput hu (pe_var hN hvis hd hcd) hi hv hs) fun D σ H h => ?_
  obtain ⟨G0, R, env, ⟨G, F, rel, hR, x0⟩, o, e, g⟩ := h
  simp only [sDPut, Option.bind_eq_some_iff] at e
  obtain ⟨y, e1, d, e2, u, e3, c, e4, k, e5, t, hsl, e6⟩ := e
  split at e6
  · rename_i ds hst
    split at e6
    · rename_i hz
      cases e6
      refine ⟨G, env, F, rel, y, e1, fun v H1 G1 F1 x1 r1 => ?_⟩
      obtain ⟨v0, _, _, _, h1, _⟩ := rel.mut (slotT_eq hsl) (show T.at [] t = some t.strip from rfl)
      refine ⟨v0, h1, G1, env, F, rel.ext x1, u, e3, fun w H2 G2 F2 x2 r2 => ?_⟩
      obtain ⟨a, rfl, tr, up⟩ := md_at ((rel.ext x1).ext x2) hR ((x0.trans x1).trans x2) (slotT_eq hsl) h1 (.inl ⟨ds, hst⟩)
      rw [hst] at tr
      cases tr with
      | md ha kr =>
        refine ⟨a, _, rfl, .inl ⟨_, k, ha, (r2.of_pure? e4).key e5, by rw [kr.length]; exact Nat.lt_of_lt_of_le hz LIM_line, rfl⟩, ?_⟩
        exact g σ _ (up _ _ (.md upd_same (kr.put ((r1.of_pure? e2).mono x2.gg))))
    · cases e6
  · cases e6
end
/-- the turns of a for over a dict: the slot holds the locked dict at each -/
def FD (i : Nat) (t : T) (g : D → En → Option En) (mb : SM) : List D → En → En → Prop
  | [], env, env' => env' = env ∧ env[i]? = some (some t)
  | d :: r, env, env' => env[i]? = some (some t) ∧ ∃ e1, g d env = some e1 ∧ ∃ e2, (mb e1 = some (.nx e2) ∨ mb e1 = some (.ct e2)) ∧ FD i t g mb r e2 env'
theorem FD.at {i : Nat} {t : T} {g : D → En → Option En} {mb : SM} : ∀ {ds : List D} {env env' : En}, FD i t g mb ds env env' → env[i]? = some (some t)
  | [], _, _, h => h.2
  | _ :: _, _, _, h => h.1
theorem FD.det {i : Nat} {t : T} {g : D → En → Option En} {mb : SM} : ∀ {ds : List D} {env e1 e2 : En}, FD i t g mb ds env e1 → FD i t g mb ds env e2 → e1 = e2
  | [], _, _, _, h, h' => by rw [h.1, h'.1]
  | _ :: _, _, _, _, ⟨_, a, ha, b, hb, h⟩, ⟨_, a', ha', b', hb', h'⟩ => by
    rw [ha] at ha'
    cases ha'
    have : b = b' := by
      rcases hb with z | z <;> rcases hb' with z' | z' <;> (rw [z] at z'; cases z') <;> rfl
    subst this
    exact FD.det h h'
def dkeys (ds : List (Key × D)) : List D := ds.map fun p => keyD p.1
instance : Inhabited Obj := ⟨{ cls := .none, dict := none, data := .plain, slots := #[] }⟩
section
variable {X : Cx} {pos npos : Pos} {tg : Expr} {body : List Stmt} {js : List Nat} {g : D → En → Option En} {mb : SM}
end
end M
namespace M
open PySem PySem.Spec PyProof.Rows L2 HT

theorem fm_congr {α β : Type} {f g : α → Option β} : ∀ {l : List α}, (∀ x ∈ l, f x = g x) → l.filterMap f = l.filterMap g
  | [], _ => rfl
  | x :: r, h => by
    rw [List.filterMap_cons, List.filterMap_cons, h x List.mem_cons_self, fm_congr (l := r) fun y hy => h y (List.mem_cons_of_mem _ hy)]
theorem pick_rev (xs : Array Value) : ((List.range xs.size).filterMap fun (m : Nat) => xs[(((xs.size : Int) - 1) + (m : Int) * (-1)).toNat]?).toArray = xs.toList.reverse.toArray := by
  have h := pick_gen xs.toList.reverse.toArray 0 xs.size
  have e : (List.range xs.size).filterMap (fun (m : Nat) => xs[(((xs.size : Int) - 1) + (m : Int) * (-1)).toNat]?) = (List.range xs.size).filterMap (fun (m : Nat) => xs.toList.reverse.toArray[(((0 : Nat) : Int) + (m : Int) * 1).toNat]?) := by
    refine fm_congr fun m hm => ?_
    have hm' : m < xs.size := List.mem_range.mp hm
    have e1 : (((xs.size : Int) - 1) + (m : Int) * (-1)).toNat = xs.size - 1 - m := by omega
    have e2 : (((0 : Nat) : Int) + (m : Int) * 1).toNat = m := by omega
    rw [e1, e2]
    simp only [List.getElem?_toArray]
    rw [List.getElem?_reverse (by simpa using hm')]
    simp
  rw [e, h, List.drop_zero, List.take_of_length_le (by simp)]
section
variable {P : Program} {w : World} {A : Around} {E : Value → Shared → Prop} {s : Shared}
theorem applied_rev {sl : Addr} {vl vu vs : Value} {n : Nat} {Q : Int × Int × Nat → Shared → Prop} (hs : s.heap.IsSliceOf sl vl vu vs) (pl : IsPart vl none) (pu : IsPart vu none) (ps : IsPart vs (some (-1)))
    (h : Q ((n : Int) - 1, -1, n) s) : wpAny (model P w) A (Builtin.Slice.sliceApplied (.ref sl) (pure (n : Int))) Q E s := by
  have hq : Builtin.Slice.slicePlaces ((n : Int) - 1) (-1) (-1) = n := by
    unfold Builtin.Slice.slicePlaces
    simp only [show ¬ ((-1 : Int) > 0) by omega, if_false, Int.neg_neg, Int.ediv_one]
    split <;> omega
  have ha : Builtin.Slice.sliceAdjust none none (-1) (n : Int) = ((n : Int) - 1, -1) := rfl
  obtain ⟨ob, h1, h2, h3⟩ := id hs
  unfold Builtin.Slice.sliceApplied Builtin.Slice.sliceFields
  refine wpAny_bind (wpAny_bind (wpAny_field h1 h3 (x := vl) rfl (wpAny_bind (wpAny_field h1 h3 (x := vu) rfl (wpAny_bind (wpAny_field h1 h3 (x := vs) rfl (wpAny_pure (wpAny_bind (slicePart_ ps ?_)))))))))
  show wpAny _ _ (if ((-1 : Int) == 0) = true then _ else _) _ _ s
  rw [if_neg (show ¬ ((-1 : Int) == 0) = true by decide)]
  refine wpAny_bind (slicePart_ pl (wpAny_bind (slicePart_ pu (wpAny_bind (wpAny_pure ?_)))))
  show wpAny _ _ (match Builtin.Slice.sliceAdjust none none (-1) (n : Int) with | (lo, hi) => pure (lo, (-1 : Int), Builtin.Slice.slicePlaces lo hi (-1))) _ _ s
  rw [ha]
  show wpAny _ _ (pure ((n : Int) - 1, (-1 : Int), Builtin.Slice.slicePlaces ((n : Int) - 1) (-1) (-1))) _ _ s
  rw [hq]
  exact wpAny_pure h
theorem item_rev {t sl : Addr} {its : Array Value} {vl vu vs : Value} {Q : Value → Shared → Prop} (ht : IsTup s.heap t its) (hs : s.heap.IsSliceOf sl vl vu vs) (pl : IsPart vl none) (pu : IsPart vu none) (ps : IsPart vs (some (-1))) (hz : its.size ≤ sizeLine)
    (h : Q (.ref s.heap.objs.size) { s with heap := s.heap.push { cls := .type "tuple", data := .seq its.toList.reverse.toArray } }) : wpAny (model P w) A (getItem (.ref t) (.ref sl)) Q E s := by
  have hk : sizeOk (.seq its.toList.reverse.toArray) := by
    show its.toList.reverse.toArray.size ≤ sizeLine
    simpa using hz
  have hT : s.TypeIs (.ref sl) "slice" := by
    obtain ⟨ob, h1, h2, _⟩ := id hs
    exact ⟨ob, h1, h2⟩
  unfold getItem
  first | with_reducible refine wpAny_holding ?_ | skip
  first | refine wpAny_bind (wpAny_pure ?_) | skip
  refine wpAny_bind (wpAny_sequenceKey ht.typeIs (by decide) (wpAny_bind (wpAny_callSpecial?_slot (name := Str.ofString "__getitem__") ht.typeIs PyProof.Rows.slot_tuple_getitem (wpAny_call_entry PyProof.Rows.slot_tuple_getitem ht.typeIs entry_tuple_getitem ?_ (args_tuple_getitem _ _)))))
  show wpAny _ _ (Builtin.Tuple.tupleItemsOf (.ref t) >>= _) _ _ s
  refine wpAny_bind (tupleItemsOf_ ht (wpAny_bind (wpAny_typeOf hT ?_)))
  rw [if_pos (by decide)]
  refine wpAny_bind (applied_rev hs pl pu ps ?_)
  have hno : ¬ ((((its.size : Int) - 1) == 0 && (-1 : Int) == 1 && its.size == its.size) = true) := by
    rw [show ((-1 : Int) == 1) = false by decide, Bool.and_false, Bool.false_and]
    decide
  show wpAny _ _ (if ((((its.size : Int) - 1) == 0 && (-1 : Int) == 1 && its.size == its.size) = true) then _ else _) _ _ s
  rw [if_neg hno, pick_rev]
  first
    | exact wpAny_bind (m := Builtin.Tuple.tupleExact _) (wpAny_newObj_type (wpAny_pure ⟨_, rfl, wpAny_pure h⟩) hk)
    | exact wpAny_bind (m := Builtin.Tuple.tupleExact _) (wpAny_newObj_type (wpAny_bind (wpAny_pure (wpAny_pure ⟨_, rfl, wpAny_pure h⟩))) hk)
    | exact wpAny_bind (wpAny_bind (m := Builtin.Tuple.tupleExact _) (wpAny_newObj_type (wpAny_pure (wpAny_pure ⟨_, rfl, wpAny_pure h⟩)) hk))
    | exact wpAny_bind (wpAny_bind (m := Builtin.Tuple.tupleExact _) (wpAny_newObj_type (wpAny_pure ⟨_, rfl, wpAny_pure h⟩) hk))
end

section
variable {X : Cx}
def tRevT (K : PySem.W.Frag) (te : TE) : TE := fun σ H Q => te σ H fun x H1 => ∃ a xs, x = .ref a ∧ SqT K H1 a xs ∧ ∀ p, H1 p = none → Q (.ref p) (upd H1 p (.tup xs.reverse))
theorem pe_revT {e : Expr} {te : TE} {k : Nat} {p1 p2 p3 pos : Pos} (he : PE X e te) : PE X (.Subscript e (.Slice none none (some (.UnaryOp .USub (.Constant (.int 1) k p1) p2)) p3) pos) (tRevT X.K te) := by
  refine ⟨fun pins s σ H Q I h => Subscript_ (thn (he.run pins s σ H _ I h) fun v s1 z => ?_)⟩
  obtain ⟨x, H1, I1, r1, a, xs, rfl, hx, q⟩ := z
  cases r1
  have hm1 : PO X (some (.UnaryOp .USub (.Constant (.int 1) k p1) p2)) (tPart (tUn (rU fun i => .int (-i)) (tC (.int 1)))) := po_some (pe_un un_neg pe_int)
  refine wpAny_Slice (thn (po_none.run pins s1 σ H1 (fun o H2 => o = none ∧ H2 = H1) I1 ⟨rfl, rfl⟩) fun vl s2 z2 => ?_)
  obtain ⟨l, H2, I2, pl, rfl, rfl⟩ := z2
  refine thn (po_none.run pins s2 σ H2 (fun o H3 => o = none ∧ H3 = H2) I2 ⟨rfl, rfl⟩) fun vu s3 z3 => ?_
  obtain ⟨u, H3, I3, pu, rfl, rfl⟩ := z3
  refine thn (hm1.run pins s3 σ H3 (fun o H4 => o = some (-1) ∧ H4 = H3) I3 ⟨1, rfl, -1, rfl, rfl, rfl⟩) fun vs s4 z4 => ?_
  obtain ⟨o, H4, I4, ps, rfl, rfl⟩ := z4
  have J : Inv X pins σ H4 { s4 with heap := s4.heap.push { cls := .type "slice", data := .fields #[vl, vu, vs] } } := I4.kept (t' := s4.toks) fun b ob y => Heap.get?_push_of_some _ y
  obtain ⟨its, r, ht, hz⟩ := J.tuple hx
  have hlen := r.length
  show wpAny (model X.prog X.w) X.A (subscriptTail e (.Slice none none (some (.UnaryOp .USub (.Constant (.int 1) k p1) p2)) p3) (.ref a) (.ref s4.heap.objs.size)) (EP X pins σ Q) X.xe _
  refine tail_any (ops := [.ref a, .ref s4.heap.objs.size]) ht.typeIs (PyProof.Rows.slot_tuple_getitem.lookup) ?_ (by with_unfolding_all rfl)
  refine item_rev ht (Heap.IsSliceOf.new _ vl vu vs) pl pu ps (by rw [List.size_toArray]; omega) ?_
  refine ⟨.ref _, _, J.laid (t' := s4.toks) (o := .tup xs.reverse) (fun b ob y => Heap.get?_push_of_some _ y) (Nat.le_refl _) ?_, rfl, q _ (J.hok.fresh (Nat.le_refl _))⟩
  have rr := r.reverse
  first
    | exact ⟨by rw [List.length_reverse]; exact hz, _, 0, rr, Heap.get?_push_size _ rfl⟩
    | exact ⟨by rw [List.length_reverse]; exact hz, _, rr, ⟨_, Heap.get?_push_size _ rfl, rfl, 0, rfl⟩⟩
    | exact ⟨by rw [List.length_reverse]; exact hz, _, rr, _, Heap.get?_push_size _ rfl, rfl, _, rfl⟩
end
def mRevT (m : EM) : EM := fun env => (m env).bind fun t => match t.seq? with
  | some ds => some (.p (.list ds.reverse))
  | none => t.any?.map fun ds => .p (.tuple ds.reverse)
@[simp] theorem ev_mRevT {m : EM} {env : En} : mRevT m env = (m env).bind fun t => match t.seq? with
  | some ds => some (.p (.list ds.reverse))
  | none => t.any?.map fun ds => .p (.tuple ds.reverse) := rfl
theorem PE_or {X : Cx} {e : Expr} {t t' : TE} (h : PE X e t) (h' : PE X e t') : PE X e (fun σ H Q => t σ H Q ∨ t' σ H Q) := ⟨fun pins s σ H Q I q => q.elim (h.run pins s σ H Q I) (h'.run pins s σ H Q I)⟩
theorem pm_revA {X : Cx} {e : Expr} {me : EM} {k : Nat} {p1 p2 p3 pos : Pos} (he : PM X e me) : PM X (.Subscript e (.Slice none none (some (.UnaryOp .USub (.Constant (.int 1) k p1) p2)) p3) pos) (mRevT me) := by
  refine PE_imp (PE_or (pe_revL he) (pe_revT he)) fun σ H Q h => ?_
  obtain ⟨G, env, F, rel, t, e1, q⟩ := h
  simp only [mRevT, Option.bind_eq_some_iff] at e1
  obtain ⟨t1, e2, e3⟩ := e1
  cases hs : t1.seq? with
  | some ds =>
    rw [hs] at e3
    cases e3
    refine .inl ⟨G, env, F, rel, t1, e2, fun x H1 G1 F1 x1 r1 => ?_⟩
    obtain ⟨p, vs, rfl, h1, p1⟩ := r1.seq x1.gh hs
    refine ⟨p, vs, rfl, h1, fun l nl => ?_⟩
    have x4 := Ext.new (o := .lst vs.reverse) x1.gh nl
    exact q _ _ _ [] (x1.trans x4) (.p (.lst upd_same (p1.reverse.mono x4.gg)))
  | none =>
    rw [hs] at e3
    simp only [Option.map_eq_some_iff] at e3
    obtain ⟨ds, e4, rfl⟩ := e3
    refine .inr ⟨G, env, F, rel, t1, e2, fun x H1 G1 F1 x1 r1 => ?_⟩
    have e5 : t1.tup? = some ds := by
      unfold T.any? at e4
      rw [hs] at e4
      exact e4
    obtain ⟨p, vs, rfl, h1, p1⟩ := r1.tup x1.gh e5
    refine ⟨p, vs, rfl, h1, fun l nl => ?_⟩
    have x4 := Ext.new (o := .tup vs.reverse) x1.gh nl
    exact q _ _ _ [] (x1.trans x4) (.p (.tup (.inl (.inl upd_same)) (p1.reverse.mono x4.gg)))
end M
namespace M
open PySem PySem.Spec PyProof.Rows L2

def picks (env : En) : List Nat → Option (List T)
  | [] => some []
  | j :: js => (slotT env j).bind fun t => (picks env js).map fun ts => t :: ts
inductive SlotsV (σ : L2.St) : List Nat → List V → Prop
  | nil : SlotsV σ [] []
  | cons {j : Nat} {v : V} {js : List Nat} {vs : List V} : σ[j]? = some (some v) → SlotsV σ js vs → SlotsV σ (j :: js) (v :: vs)
section
variable {K : PySem.W.Frag} {G H : Hp}
end

inductive AI where
  | ex (m : EM)
  | sl (i : Nat)
def mixT : List (T × Bool) → List Addr → List T
  | (t, false) :: r, al => t :: mixT r al
  | (t, true) :: r, a :: al => .rf a t :: mixT r al
  | _, _ => []
def wraps : List T → List T → List T
  | t :: ts, u :: us => t.wrap u :: wraps ts us
  | _, _ => []
def rfs (al : List Addr) (us : List T) : List T := List.zipWith T.rf al us
/-- the call tells d, and us of what it was handed, wherever that lies -/
def IOres (fn : List T → Option T) (xs : List (T × Bool)) (n : Nat) (d : D) (us : List T) : Prop := us.length = n ∧ ∀ al : List Addr, al.length = n → fn (mixT xs al) = some (.io (.p d) (rfs al us))
theorem rfs_inj : ∀ {al : List Addr} {us ws : List T}, us.length = al.length → ws.length = al.length → rfs al us = rfs al ws → us = ws
  | [], [], [], _, _, _ => rfl
  | _ :: al, u :: us, w :: ws, h1, h2, e => by
    simp only [rfs, List.zipWith_cons_cons, List.cons.injEq, T.rf.injEq, true_and] at e
    rw [e.1, rfs_inj (al := al) (by simpa using h1) (by simpa using h2) e.2]
theorem IOres.uniq {fn : List T → Option T} {xs : List (T × Bool)} {n : Nat} {d d' : D} {us us' : List T} (h : IOres fn xs n d us) (h' : IOres fn xs n d' us') : d = d' ∧ us = us' := by
  have e1 := h.2 (List.replicate n (0 : Nat)) (by simp)
  have e2 := h'.2 (List.replicate n (0 : Nat)) (by simp)
  rw [e1] at e2
  simp only [Option.some.injEq, T.io.injEq, T.p.injEq] at e2
  exact ⟨e2.1, rfs_inj (by simp [h.1]) (by simp [h'.1]) e2.2⟩
inductive ArgsAI (K : PySem.W.Frag) (G H : Hp) (σ : L2.St) : List AI → List (T × Bool) → List V → Prop
  | nil : ArgsAI K G H σ [] [] []
  | ex {m : EM} {t : T} {v : V} {as : List AI} {xs : List (T × Bool)} {vs : List V} : TR K G H t v [] → ArgsAI K G H σ as xs vs → ArgsAI K G H σ (.ex m :: as) ((t, false) :: xs) (v :: vs)
  | sl {i : Nat} {t : T} {v : V} {as : List AI} {xs : List (T × Bool)} {vs : List V} : σ[i]? = some (some v) → ArgsAI K G H σ as xs vs → ArgsAI K G H σ (.sl i :: as) ((t, true) :: xs) (v :: vs)
theorem ArgsAI.len {K : PySem.W.Frag} {G H : Hp} {σ : L2.St} : ∀ {as : List AI} {xs : List (T × Bool)} {vs : List V}, ArgsAI K G H σ as xs vs → vs.length = as.length
  | _, _, _, .nil => rfl
  | _, _, _, .ex _ r => by simp [r.len]
  | _, _, _, .sl _ r => by simp [r.len]
section
variable {X : Cx} {e : Expr} {es : List Expr} {me : EM} {as : List AI}
end

theorem TRs.es {K : PySem.W.Frag} {G H : Hp} : ∀ {ts : List T} {vs : List V} {F : List Addr} (n : Nat), TRs K G H ts vs F → ES K G H (ts.map some ++ List.replicate n none) (vs.map some ++ List.replicate n none) F
  | _, _, _, n, .nil => by
    simp only [List.map_nil, List.nil_append]
    induction n with
    | zero => exact .nil
    | succ n ih => exact .no ih
  | _, _, _, n, .cons h r => .so h (TRs.es n r)
section
variable {X : Cx} {k np : Nat} {f : Addr} {fd : FuncData} {ps : List Str} {fn : List T → Option T} {x y : Str} {e : Expr} {es : List Expr} {as : List AI} {p pos spos pos' : Pos}
end
end M
namespace M
open PySem PySem.Spec PyProof.Rows L2

section
variable {X : Cx} {pos npos : Pos} {tg : Expr} {body : List Stmt} {js : List Nat} {g : D → En → Option En} {mb : SM}
end
end M
namespace M
open PySem PySem.Spec PyProof.Rows L2

section
variable {X : Cx}
end
def ltB (p q : Bool) : Bool := !p && q
def bOp2 (f : Bool → Bool → Bool) : T → T → Option T := fun a b => a.bool?.bind fun p => b.bool?.map fun q => .p (.bool (f p q))
def ltBT : T → T → Option T := bOp2 ltB
end M
namespace M
open PySem PySem.Spec PyProof.Rows L2

def intKeys : List (Key × D) → Option (List Int)
  | [] => some []
  | (.inl i, _) :: r => (intKeys r).map fun ns => i :: ns
  | _ => none
theorem intKeys_eq {K : PySem.W.Frag} {G : Hp} : ∀ {ds : List (Key × D)} {ns : List Int} {kvs : List (Key × V)}, KR K G kvs ds → intKeys ds = some ns → kvs.map (·.1) = ns.map Sum.inl
  | _, _, _, .nil, e => by cases e; rfl
  | _, _, _, .cons (k := .inl i) h r, e => by
    simp only [intKeys, Option.map_eq_some_iff] at e
    obtain ⟨ns, e1, rfl⟩ := e
    simp only [List.map_cons, intKeys_eq r e1]
  | _, _, _, .cons (k := .inr i) h r, e => by simp [intKeys] at e
def sortedDT : List T → Option T
  | [t] => t.dct?.bind fun ds => (intKeys ds).bind fun ns => if ns.length < 64 then some (.p (.list ((sortI ns).map PyData.int))) else none
  | _ => none
def rSortedDI : List V → Hp → VK → Prop := fun xs H Q => ∃ (a : Addr) (kvs : List (Key × V)) (ks : List Int), xs = [.ref a] ∧ Rd H a (.dK kvs) ∧ kvs.map (·.1) = ks.map Sum.inl ∧ ks.length < 64 ∧
    ∀ (ys : List Int) (p : Addr), ys.Perm ks → ys.Pairwise (· ≤ ·) → H p = none → Q (.ref p) (upd H p (.lst (ys.map V.int)))
theorem cr_sortedD {X : Cx} (hc : X.calm = true) : CallR X (.builtin "sorted") rSortedDI := call_sortedDI hc
theorem cm_sortedD {K : PySem.W.Frag} : CM K rSortedDI sortedDT := by
  intro G H ts t xs e s r Q q
  unfold sortedDT at e
  split at e
  · simp only [Option.bind_eq_some_iff] at e
    obtain ⟨ds, e1, ns, e2, e3⟩ := e
    split at e3
    · rename_i hz
      cases e3
      obtain ⟨v, F, rfl, h⟩ := r.one
      obtain ⟨a, kvs, rfl, h1, h2⟩ := h.dct s e1
      refine ⟨a, kvs, ns, rfl, h1, intKeys_eq h2 e2, hz, fun ns' p hp hs np => ?_⟩
      have : ns' = sortI ns := PySem.W.ksm_same (hp.trans (sortI_perm ns).symm) hs (sortI_pair ns)
      subst this
      have x2 := Ext.new (o := .lst ((sortI ns).map V.int)) s np
      exact q _ _ _ [] x2 (.p (.lst upd_same (Rps.of_ints _)))
    · cases e3
  · cases e
def idxOfT : T → T → Option T := fun a b => match a.snap with
  | some (.list ds) => b.snap.bind fun d => if SeqAt.shaped (.list ds) = true ∧ SeqAt.shaped d = true then (ds.findIdx? fun z => PyData.eqv z d).map fun j => .p (.int (j : Nat)) else none
  | _ => none
section
variable {X : Cx} {o e : Expr} {mo me : EM} {apos cpos : Pos}
theorem TR.ofList {K : PySem.W.Frag} {G H : Hp} {t : T} {v : V} {F : List Addr} {ds : List D} (r : TR K G H t v F) (s : Same G H) (e : t.snap = some (.list ds)) : ∃ a vs, v = .ref a ∧ H a = some (.lst vs) := by
  have h := r.live s e
  cases h with
  | lst h r => exact ⟨_, _, rfl, h⟩
theorem pm_index (hu : X.A.units + 65 < cLine) (ho : PM X o mo) (he : PM X e me) (hbase : attributeBase o "index" X.env (eval o X.env) = eval o X.env := by rfl)
    (hfew : ((backTo cpos (starEach [e] X.env)).all (fun x => !x.1) && (backToKw cpos (keywordEach [] X.env)).all (fun x => x.1.isSome)
      && decide ([e].length + ([] : List Keyword).length + (if ([] : List Keyword).isEmpty then 0 else 1) < 30)) = true := by rfl)
    (hline : (apos.endLine == cpos.line) = true := by rfl) (hs : starEach [e] X.env = (false, eval e X.env) :: starEach [] X.env := by rfl) :
    PM X (.Call (.Attribute o "index" apos) [e] [] cpos) (mOp idxOfT mo me) := by
  refine PE_imp (pe_bm PySem.F.plainAttrs_list PySem.F.slot_list_index PySem.F.type_list_index (mt_indexD hu) ho (pam_cons he pam_nil hs) hbase hfew hline hs rfl) fun σ H Q h => ?_
  obtain ⟨G, env, F, rel, t, e1, q⟩ := h
  simp only [mOp, Option.bind_eq_some_iff] at e1
  obtain ⟨t1, e2, t2, e3, e4⟩ := e1
  unfold idxOfT at e4
  split at e4
  · rename_i ds hsn
    simp only [Option.bind_eq_some_iff] at e4
    obtain ⟨d, e5, e6⟩ := e4
    split at e6
    · rename_i hz
      rw [Option.map_eq_some_iff] at e6
      obtain ⟨j, e7, rfl⟩ := e6
      refine ⟨G, env, F, rel, t1, e2, fun x H1 G1 F1 x1 r1 => ?_⟩
      obtain ⟨a, vs, rfl, ha⟩ := r1.ofList x1.gh hsn
      refine ⟨.inl ⟨rfl, vs, .inl (.inl ha)⟩, ?_⟩
      refine ⟨G1, env, F, rel.ext x1, [t2], by simp [aCons, aNil, e3], fun ws H2 G2 x2 r => ?_⟩
      obtain ⟨w, F', rfl, hw⟩ := r.one
      have r1' := r1.keep x2.gg (Keep.of x2.hh)
      obtain ⟨hj, hp, hn⟩ := List.findIdx?_eq_some_iff_getElem.mp e7
      refine ⟨a, w, d, ds, j, ds[j], rfl, rfl, (r1'.live x2.gh hsn).dp (SeqAt.canLay_of_shaped hz.1), (hw.live x2.gh e5).dp (SeqAt.canLay_of_shaped hz.2), hz.1, hz.2, List.getElem?_eq_getElem hj, hp, fun m z' hm e => ?_, q _ H2 G2 [] (x1.trans x2) (.p (.int _))⟩
      obtain ⟨hl, rfl⟩ := List.getElem?_eq_some_iff.mp e
      simpa using hn m hm
    · cases e6
  · cases e4
end
theorem Rel.lsetF {K : PySem.W.Frag} {G H : Hp} {env : En} {σ : L2.St} {F : List Addr} {i : Nat} {t : T} {ts : List T} {π : List Stp} (rel : Rel K G H env σ F) (ei : env[i]? = some (some t)) (eu : T.at π t = some (.ml ts)) :
    ∃ v0 a vs Fk, σ[i]? = some (some v0) ∧ VAt H v0 π (.ref a) ∧ H a = some (.lst vs) ∧ TRs K G H ts vs Fk ∧ a ∈ F ∧ (a :: Fk).Nodup ∧ (∀ b ∈ Fk, b ∈ F) ∧
      ∀ ts' vs' Fk', TRs K G H ts' vs' Fk' → Fk'.Nodup → (∀ b ∈ Fk', b ∈ Fk ∨ (G b = none ∧ b ∉ F)) → ∃ t' F', T.put π t (.ml ts') = some t' ∧ Rel K G (upd H a (.lst vs')) (env.set i (some t')) σ F' ∧ ∀ b ∈ F', b ∈ F ∨ b ∈ Fk' := by
  obtain ⟨v0, v, F1, Fo, h1, h2, h3, h4, h5, h6, h7⟩ := rel.mut ei eu
  cases h3 with
  | ml h r =>
    rename_i a vs Fk
    have na : a ∉ Fk := (List.nodup_cons.mp h5).1
    refine ⟨v0, a, vs, Fk, h1, h2, h, r, h4 a List.mem_cons_self, h5, fun b hb => h4 b (List.mem_cons_of_mem _ hb), fun ts' vs' Fk' r' nd' sub => ?_⟩
    have aF := h4 a List.mem_cons_self
    have na' : a ∉ Fk' := fun z => by
      rcases sub a z with w | w
      · exact na w
      · exact w.2 aF
    have ga : G a = none := (rel.fr a aF).1
    have kp : ∀ L : List Addr, a ∉ L → Keep L H (upd H a (.lst vs')) := fun L hL b hb o z => by
      rw [upd_ne (fun e => by subst e; exact hL hb)]; exact z
    have fr1 : ∀ b ∈ a :: Fk', G b = none ∧ b ∉ Fo := fun b hb => by
      rcases List.mem_cons.mp hb with z | z
      · subst z; exact ⟨ga, fun w => (h6 b w).2 List.mem_cons_self⟩
      · rcases sub b z with w | w
        · have hb' : b ∈ a :: Fk := List.mem_cons_of_mem _ w
          exact ⟨(rel.fr b (h4 b hb')).1, fun z => (h6 b z).2 hb'⟩
        · exact ⟨w.1, fun z => w.2 (h6 b z).1⟩
    obtain ⟨t', F', p1, p2, p3⟩ := h7 G (upd H a (.lst vs')) (.ml ts') (a :: Fk') (Same.refl G) (fun b o z => by
        rw [upd_ne (ne_of_none z ga)]; exact rel.sm b o z) (kp Fo fun z => (h6 a z).2 List.mem_cons_self)
      (.ml upd_same (r'.keep (Same.refl G) (kp Fk' na'))) (List.nodup_cons.mpr ⟨na', nd'⟩) fr1 (fun b hb => (rel.fr b (h6 b hb).1).1)
    refine ⟨t', F', p1, p2, fun b hb => ?_⟩
    rcases p3 b hb with z | z
    · rcases List.mem_cons.mp z with z | z
      · subst z; exact .inl aF
      · exact .inr z
    · exact .inl (h6 b z).1
def sAppendF (mp : PMm) (me : EM) : SM := fun env => (me env).bind fun u => (updAt mp (fun ts => if ts.length < LIM then some (ts ++ [u]) else none) env).map .nx
section
variable {X : Cx} {pos : Pos} {o e : Expr} {mp : PMm} {me : EM} {apos cpos : Pos}
theorem psm_appendF (ho : PP X o mp) (he : PF X e me) (hbase : attributeBase o "append" X.env (eval o X.env) = eval o X.env := by rfl)
    (hfew : ((backTo cpos (starEach [e] X.env)).all (fun x => !x.1) && (backToKw cpos (keywordEach [] X.env)).all (fun x => x.1.isSome)
      && decide ([e].length + ([] : List Keyword).length + (if ([] : List Keyword).isEmpty then 0 else 1) < 30)) = true := by rfl)
    (hline : (apos.endLine == cpos.line) = true := by rfl) (hs : starEach [e] X.env = (false, eval e X.env) :: starEach [] X.env := by rfl) (hsw : swapsWith (.Call (.Attribute o "append" apos) [e] [] cpos) none pos.line X.env = pure false := by rfl) :
    PSM X (.Expr (.Call (.Attribute o "append" apos) [e] [] cpos) pos) (sAppendF mp me) := by
  refine PS_imp (ps_expr (pe_bm PySem.F.plainAttrs_list PySem.F.slot_list_append PySem.F.type_list_append mt_append ho (paf_cons he paf_nil hs) hbase hfew hline hs rfl) hsw) fun D σ H h => ?_
  obtain ⟨G0, R, env, ⟨G, F, rel, hR, x0⟩, o, e, g⟩ := h
  simp only [sAppendF, Option.bind_eq_some_iff, Option.map_eq_some_iff] at e
  obtain ⟨y, e1, env', e3, rfl⟩ := e
  obtain ⟨i, π, t, ts, ts', t', e4, e5, e6, e7, e8, rfl⟩ := updAt_eq e3
  refine ⟨G, env, F, rel, i, π, e4, fun v v0 H1 G1 x1 hs hv => ?_⟩
  obtain ⟨v0', a, vs, Fk, h1, h2, ha, _⟩ := (rel.ext x1).lsetF (slotT_eq e5) e6
  have z0 : v0' = v0 := by have := h1.symm.trans hs; cases this; rfl
  subst z0
  have z1 := hv.det h2
  subst z1
  refine ⟨.inl ⟨rfl, vs, .inl (.inl ha)⟩, ?_⟩
  refine ⟨G1, env, F, rel.ext x1, [y], by simp [aCons, aNil, e1], fun ws H2 G2 F2 x2 r nd2 fr2 => ?_⟩
  have rel2 := (rel.ext x1).ext x2
  obtain ⟨v0'', a', vs', Fk', k1, k2, ha', ht, aF, nk, kF, up⟩ := rel2.lsetF (slotT_eq e5) e6
  have z2 : v0'' = v0' := by have := k1.symm.trans hs; cases this; rfl
  subst z2
  have z3 := (hv.mono x2.hh).det k2
  cases z3
  cases r with
  | cons hy hn =>
    rename_i w Fy Fn ws'
    cases hn
    have hFy : Fy ++ [] = Fy := List.append_nil _
    rw [hFy] at nd2 fr2
    split at e7
    · rename_i hz
      cases e7
      refine ⟨a, vs', w, rfl, rfl, ha', by rw [ht.len]; exact Nat.lt_of_lt_of_le hz LIM_line, ?_⟩
      have q1 := ht.append (TRs.cons hy .nil)
      have new : ∀ b ∈ Fy, b ∉ F := fun b hb hF => ((rel.ext x1).fr b hF).2 (fr2 b hb).2
      rw [hFy] at q1
      obtain ⟨t'', F', p1, p2, p3⟩ := up _ _ _ q1 (List.nodup_append.mpr ⟨(List.nodup_cons.mp nk).2, nd2, fun b hb c hc z => new c hc (by rw [← z]; exact kF b hb)⟩) (fun b hb => by
        rcases List.mem_append.mp hb with z | z
        · exact .inl z
        · exact .inr ⟨(fr2 b z).1, new b z⟩)
      rw [e8] at p1
      cases p1
      refine g _ _ ⟨G2, F', p2, fun b hb => ?_, ⟨(x0.trans (x1.trans x2)).gg, fun b o z => ?_, p2.sm, (x0.trans (x1.trans x2)).fr⟩⟩
      · rcases p3 b hb with z | z
        · exact hR b z
        · rcases List.mem_append.mp z with z | z
          · exact hR b (kF b z)
          · exact (x0.trans x1).hh.free (fr2 b z).2
      · have : b ≠ a := fun q => by subst q; rw [hR b aF] at z; cases z
        rw [upd_ne this]
        exact (x0.trans (x1.trans x2)).hh b o z
    · cases e7
end
theorem u65 {k : Nat} {A : Around} (r : Room k A) : A.units + 65 < cLine := by have := r.un; omega
end M
namespace M
open PySem PySem.Spec PyProof.Rows L2

section
variable {X : Cx} {pos : Pos} {e : Expr} {es : List Expr} {me : EM} {ms : En → Option (List T)}
end
section
variable {X : Cx} {pos : Pos}
end
end M
namespace M
open PySem PySem.Spec PyProof.Rows L2

def viewE (env : En) : En := env.map fun o => o.bind T.view
theorem TR.view {K : PySem.W.Frag} {G H : Hp} (s : Same G H) {t u : T} {v : V} {F : List Addr} (r : TR K G H t v F) (e : t.view = some u) : TR K H H u v [] := by
  cases r with
  | sc h => simp [T.view] at e; subst e; exact .sc (s.seq h)
  | p h => simp [T.view, T.snap] at e; subst e; exact .p (h.mono s)
  | io _ _ => simp [T.view, T.snap] at e
  | mk h r => simp [T.view, T.snap] at e
  | ob h h' r => simp [T.view, T.snap] at e
  | ml h r =>
    simp only [T.view, Option.map_eq_some_iff] at e
    obtain ⟨d, e3, rfl⟩ := e
    exact .p ((TR.ml h r).live s e3)
  | tp h r =>
    simp only [T.view, Option.map_eq_some_iff] at e
    obtain ⟨d, e3, rfl⟩ := e
    exact .p ((TR.tp h r).live s e3)
  | md h r =>
    simp only [T.view, Option.map_eq_some_iff] at e
    obtain ⟨d, e3, rfl⟩ := e
    exact .p ((TR.md (G := G) h r).live s e3)
  | rf r =>
    simp only [T.view, Option.map_eq_some_iff] at e
    obtain ⟨d, e3, rfl⟩ := e
    exact .p ((TR.rf r).live s e3)
theorem ES.view {K : PySem.W.Frag} {G H : Hp} (s : Same G H) : ∀ {env : En} {σ : L2.St} {F : List Addr}, ES K G H env σ F → ES K H H (viewE env) σ []
  | _, _, _, .nil => .nil
  | _, _, _, .no r => .no (ES.view s r)
  | _, _, _, .so (t := t) (v := v) h r => by
    have r' := ES.view s r
    show ES K H H ((t.view) :: viewE _) _ []
    cases e : t.view with
    | none => exact .no r'
    | some u => exact .so (h.view s e) r'
theorem Rel.view {K : PySem.W.Frag} {G H : Hp} {env : En} {σ : L2.St} {F : List Addr} (r : Rel K G H env σ F) : Rel K H H (viewE env) σ [] :=
  ⟨r.es.view r.sm, .nil, fun a h => (nomatch h), Same.refl H⟩
section
variable {X : Cx} {e : Expr} {me : EM} {mb : En → Option Bool}
end
end M
namespace M
open PySem PySem.Spec PyProof.Rows L2

/-- frozen, or a list that owns no more than itself -/
def T.lent : T → Option T
  | .p d => some (.p d)
  | .sc ns => some (.sc ns)
  | .ml ts => (pures ts).map fun ds => .p (.list ds)
  | _ => none
section
variable {X : Cx} {k np : Nat} {f : Addr} {fd : FuncData} {ps : List Str} {fn : List T → Option T} {x : Str} {e : Expr} {es : List Expr} {ms : En → Option (List T)} {p pos : Pos}
end
end M
namespace M
open PySem PySem.Spec PyProof.Rows L2

/-- the three iterators and the three new cells lie apart from each other and from the lists -/
structure Apart3 (z TI TO i1 i2 i3 a b c : Addr) : Prop where
  zTI : TI ≠ z
  zTO : TO ≠ z
  TT : TI ≠ TO
  z1 : i1 ≠ z
  z2 : i2 ≠ z
  z3 : i3 ≠ z
  TI1 : TI ≠ i1
  TI2 : TI ≠ i2
  TI3 : TI ≠ i3
  TO1 : TO ≠ i1
  TO2 : TO ≠ i2
  TO3 : TO ≠ i3
  d12 : i1 ≠ i2
  d13 : i1 ≠ i3
  d23 : i2 ≠ i3
  az : a ≠ z ∧ b ≠ z ∧ c ≠ z
  aT : a ≠ TO ∧ b ≠ TO ∧ c ≠ TO
  a1 : a ≠ i1 ∧ b ≠ i1 ∧ c ≠ i1
  a2 : a ≠ i2 ∧ b ≠ i2 ∧ c ≠ i2
  a3 : a ≠ i3 ∧ b ≠ i3 ∧ c ≠ i3
theorem Apart3.sep {z TI TO i1 i2 i3 a b c : Addr} (D : Apart3 z TI TO i1 i2 i3 a b c) : ZipSep3 z TI TO i1 i2 i3 [i1, a] [i2, b] [i3, c] := by
  obtain ⟨h1, h2, h3, h4, h5, h6, h7, h8, h9, h10, h11, h12, h13, h14, h15, ⟨k1, k2, k3⟩, ⟨k4, k5, k6⟩, ⟨k7, k8, k9⟩, ⟨k10, k11, k12⟩, k13, k14, k15⟩ := D
  constructor <;> simp [*, Ne.symm h4, Ne.symm h5, Ne.symm h6, Ne.symm h13, Ne.symm h14, Ne.symm h15, Ne.symm k1, Ne.symm k2, Ne.symm k3, Ne.symm k4, Ne.symm k5, Ne.symm k6, Ne.symm k7, Ne.symm k8, Ne.symm k9, Ne.symm k10, Ne.symm k11, Ne.symm k12, Ne.symm k13, Ne.symm k14, Ne.symm k15]
/-- a list's iterator, told at the turn at which it is asked -/
theorem draws_now {prog : Program} {w : World} {A : Around} (hh : A.handled = none) {it l : Addr} (hne : l ≠ it) {items : Array Value} {i : Nat} {h : Heap} (h1 : h.IsListIter it l i) (h2 : h.IsList l items) :
    ∃ n P St, Draws prog w A it [it, l] n P St ∧ St i h ∧ i ≤ n ∧ (items.size ≤ i → i = n) := by
  by_cases hi : i < items.size
  · exact ⟨_, _, _, Draws.list hh it l hne items, ⟨h1, h2⟩, by omega, by omega⟩
  · refine ⟨i, fun _ _ => True, fun j h => j = i ∧ h.IsListIter it l j ∧ h.IsList l items, ⟨fun j h st => ?_, fun j h h' st hk => ?_, fun j s Q E hj st hQ => ?_, fun s Q E st hE => ?_⟩, ⟨rfl, h1, h2⟩, Nat.le_refl _, fun _ => rfl⟩
    · obtain ⟨o, ho, _⟩ := st.2.1
      exact ⟨o, ho⟩
    · exact ⟨st.1, st.2.1.at fun o e => hk it (by simp) o e, st.2.2.at fun o e => hk l (by simp) o e⟩
    · have := st.1; omega
    · exact wpAny_nextOf_list_end hh st.2.1 st.2.2 (by simp; omega) hE
/-- what the cells of a zip of three say at turn i -/
structure At3 (z TI TO i1 i2 i3 a b c : Addr) (i : Nat) (h : Heap) : Prop where
  zz : IsZip h z TI TO .none
  ti : IsTupOf3 h TI (.ref i1) (.ref i2) (.ref i3)
  to : ∃ x y u, IsTupOf3 h TO x y u
  l1 : h.IsListIter i1 a i
  l2 : h.IsListIter i2 b i
  l3 : h.IsListIter i3 c i
theorem fp3 {z TI TO i1 i2 i3 x : Addr} (h : x ∈ [z, TI, TO, i1, i2, i3]) : x = z ∨ x = TI ∨ x = TO ∨ x = i1 ∨ x = i2 ∨ x = i3 := by simpa using h
theorem At3.lt {z TI TO i1 i2 i3 a b c : Addr} {i : Nat} {h : Heap} (S : At3 z TI TO i1 i2 i3 a b c i h) {x : Addr} (hx : x ∈ [z, TI, TO, i1, i2, i3]) : x < h.objs.size := by
  obtain ⟨_, _, _, t⟩ := S.to
  obtain ⟨_, e1, _⟩ := S.l1
  obtain ⟨_, e2, _⟩ := S.l2
  obtain ⟨_, e3, _⟩ := S.l3
  rcases fp3 hx with rfl | rfl | rfl | rfl | rfl | rfl
  · exact Heap.lt_size S.zz
  · exact Heap.lt_size S.ti
  · exact Heap.lt_size t
  · exact Heap.lt_size e1
  · exact Heap.lt_size e2
  · exact Heap.lt_size e3
end M
namespace M
open PySem PySem.Spec PyProof.Rows L2

section
variable {X : Cx} {e e2 e3 : Expr} {me me2 me3 : EM} {p pos : Pos}
end
end M
namespace M
open PySem PySem.Spec PyProof.Rows L2

/-- a tuple and a list, as they stand at each turn; the items in new pairs -/
def ItzTL (K : PySem.W.Frag) (a b : Addr) : It where
  go := fun i H => ∃ (xs ys : List V) (x y : V), (SqT K H a xs ∧ xs[i]? = some x) ∧ SqL K H b ys ∧ ys[i]? = some y
  yld := fun i H v H' => ∃ T x y, v = .ref T ∧ H T = none ∧ H' = upd H T (.tup [x, y]) ∧ (∀ xs, SqT K H a xs → xs[i]? = some x) ∧ ∀ ys, SqL K H b ys → ys[i]? = some y
  stop := fun i H => ∃ xs ys : List V, SqT K H a xs ∧ SqL K H b ys ∧ (xs.length ≤ i ∨ ys.length ≤ i)
structure Apart2 (z TI TO i1 i2 a b : Addr) : Prop where
  zTI : TI ≠ z
  zTO : TO ≠ z
  TT : TI ≠ TO
  z1 : i1 ≠ z
  z2 : i2 ≠ z
  TI1 : TI ≠ i1
  TI2 : TI ≠ i2
  TO1 : TO ≠ i1
  TO2 : TO ≠ i2
  d12 : i1 ≠ i2
  az : a ≠ z ∧ b ≠ z
  aT : a ≠ TO ∧ b ≠ TO
  a1 : a ≠ i1 ∧ b ≠ i1
  a2 : a ≠ i2 ∧ b ≠ i2
theorem Apart2.sep {z TI TO i1 i2 a b : Addr} (D : Apart2 z TI TO i1 i2 a b) : ZipSep2 z TI TO i1 i2 [i1, a] [i2, b] := by
  obtain ⟨h1, h2, h3, h4, h5, h7, h8, h10, h11, h13, ⟨k1, k2⟩, ⟨k4, k5⟩, ⟨k7, k8⟩, k10, k11⟩ := D
  constructor <;> simp [*, Ne.symm h4, Ne.symm h5, Ne.symm h13, Ne.symm k1, Ne.symm k2, Ne.symm k4, Ne.symm k5, Ne.symm k7, Ne.symm k8, Ne.symm k10, Ne.symm k11]
theorem drawsT_now {prog : Program} {w : World} {A : Around} (hh : A.handled = none) {it l : Addr} (hne : l ≠ it) {items : Array Value} {i : Nat} {h : Heap} (h1 : h.IsTupleIter it l i) (h2 : h.IsTuple l items) :
    ∃ n P St, Draws prog w A it [it, l] n P St ∧ St i h ∧ i ≤ n ∧ (items.size ≤ i → i = n) := by
  by_cases hi : i < items.size
  · exact ⟨_, _, _, Draws.tuple hh it l hne items, ⟨h1, h2⟩, by omega, by omega⟩
  · refine ⟨i, fun _ _ => True, fun j h => j = i ∧ h.IsTupleIter it l j ∧ h.IsTuple l items, ⟨fun j h st => ?_, fun j h h' st hk => ?_, fun j s Q E hj st hQ => ?_, fun s Q E st hE => ?_⟩, ⟨rfl, h1, h2⟩, Nat.le_refl _, fun _ => rfl⟩
    · obtain ⟨o, ho, _⟩ := st.2.1
      exact ⟨o, ho⟩
    · exact ⟨st.1, st.2.1.at fun o e => hk it (by simp) o e, st.2.2.at fun o e => hk l (by simp) o e⟩
    · have := st.1; omega
    · exact wpAny_nextOf_tuple_end hh st.2.1 st.2.2 (by simp; omega) hE
structure At2 (z TI TO i1 i2 a b : Addr) (i : Nat) (h : Heap) : Prop where
  zz : IsZip h z TI TO .none
  ti : IsTupOf2 h TI (.ref i1) (.ref i2)
  to : ∃ x y, IsTupOf2 h TO x y
  l1 : h.IsTupleIter i1 a i
  l2 : h.IsListIter i2 b i
theorem fp2 {z TI TO i1 i2 x : Addr} (h : x ∈ [z, TI, TO, i1, i2]) : x = z ∨ x = TI ∨ x = TO ∨ x = i1 ∨ x = i2 := by simpa using h
theorem At2.lt {z TI TO i1 i2 a b : Addr} {i : Nat} {h : Heap} (S : At2 z TI TO i1 i2 a b i h) {x : Addr} (hx : x ∈ [z, TI, TO, i1, i2]) : x < h.objs.size := by
  obtain ⟨_, _, t⟩ := S.to
  obtain ⟨_, e1, _⟩ := S.l1
  obtain ⟨_, e2, _⟩ := S.l2
  rcases fp2 hx with rfl | rfl | rfl | rfl | rfl
  · exact Heap.lt_size S.zz
  · exact Heap.lt_size S.ti
  · exact Heap.lt_size t
  · exact Heap.lt_size e1
  · exact Heap.lt_size e2
theorem turn_zipTL {P : Program} {w : World} {K : PySem.W.Frag} {elts : List Expr} {kk : Nat} {tpos : Pos} {a b z TI TO i1 i2 : Addr} (D : Apart2 z TI TO i1 i2 a b) :
    Turn P w K (.Tuple elts kk tpos) (ItzTL K a b) [z, TI, TO, i1, i2] z (At2 z TI TO i1 i2 a b) where
  mem := List.mem_cons_self
  self := fun A i s Q E st h => wpAny_pyIter_zip st.zz h
  obj := fun i h st x hx => by
    obtain ⟨_, _, t⟩ := st.to
    obtain ⟨o1, e1, _, q1⟩ := st.l1
    obtain ⟨o2, e2, _, q2⟩ := st.l2
    rcases fp2 hx with rfl | rfl | rfl | rfl | rfl
    · exact ⟨_, st.zz, nofun⟩
    · exact ⟨_, st.ti, nofun⟩
    · exact ⟨_, t, nofun⟩
    · exact ⟨o1, e1, fun v e => by rw [q1] at e; cases e⟩
    · exact ⟨o2, e2, fun v e => by rw [q2] at e; cases e⟩
  keep := fun i h h' st k => by
    obtain ⟨x, y, t⟩ := st.to
    exact ⟨k z (by simp) _ st.zz, k TI (by simp) _ st.ti, ⟨x, y, k TO (by simp) _ t⟩, st.l1.at fun o => k i1 (by simp) o, st.l2.at fun o => k i2 (by simp) o⟩
  item := by
    rintro X rfl rfl rfl hc i pins s σ H E I hf st ⟨xs, ys, x, y, ⟨sx, gx⟩, sy, gy⟩
    obtain ⟨x0, y0, t⟩ := st.to
    obtain ⟨vx, rx, px, _⟩ := I.tuple sx
    obtain ⟨vy, ry, py, _⟩ := I.list sy
    obtain ⟨wx, kx, ux⟩ := rx.get gx
    obtain ⟨wy, ky, uy⟩ := ry.get gy
    have lx := (List.getElem?_eq_some_iff.mp kx).1
    have ly := (List.getElem?_eq_some_iff.mp ky).1
    have hh : X.A.in1.handled = none := I.ok.hd hc
    have zlt := st.lt (x := z) (by simp)
    refine wpAny_pyNext_zipD2_item D.sep (Draws.tuple hh i1 a D.a1.1 vx.toArray) (Draws.list hh i2 b D.a2.2 vy.toArray) st.zz st.ti t ⟨st.l1, px⟩ ⟨st.l2, py.isList⟩ (by simpa using lx) (by simpa using ly) fun b1 b2 h' tk m1 m2 z' to' n1 n2 new _ hk => ?_
    have m1 : b1 = wx := by simpa [kx] using m1.symm
    have m2 : b2 = wy := by simpa [ky] using m2.symm
    subst m1 m2
    refine ⟨_, rfl, wpAny_letOwnedTupleGo_zip (s := { s with heap := h', toks := tk }) z' fun h2 z2 sb => ?_⟩
    have up : ∀ {q : Addr} {o : Obj}, q ≠ z → h'.get? q = some o → h2.get? q = some o := fun hq e => (sb.2 _ hq).trans e
    have nw : h2.get? s.heap.objs.size = some { cls := .type "tuple", data := .seq #[b1, b2] } := up (Nat.ne_of_gt zlt) new
    have ok : ObjOk X.prog X.w (upd H s.heap.objs.size (.tup [x, y])) h2 s.heap.objs.size (.tup [x, y]) := ⟨by show 2 ≤ sizeLine; decide, [b1, b2], .cons ux (.cons uy .nil), ⟨_, nw, rfl, _, rfl⟩⟩
    have out : ∀ q o, q ∉ [z, TI, TO, i1, i2] → s.heap.get? q = some o → h2.get? q = some o := fun q o hq e => by
      simp only [List.mem_cons, List.not_mem_nil, or_false, not_or] at hq
      exact up hq.1 (hk q o hq.1 hq.2.2.1 hq.2.2.2.1 hq.2.2.2.2 e)
    refine ⟨.ref s.heap.objs.size, _, I.turnedNew (t' := tk) (ch := [z, TI, TO, i1, i2]) out hf (Nat.le_refl _) ok, rfl, ⟨_, x, y, rfl, I.hok.fresh (Nat.le_refl _), rfl, fun l hl => by rw [I.tuple_inj hl sx]; exact gx, fun l hl => by rw [I.list_inj hl sy]; exact gy⟩, ?_, fun q hq => ?_⟩
    · exact ⟨z2, up D.zTI (hk _ _ D.zTI D.TT D.TI1 D.TI2 st.ti), ⟨_, _, up D.zTO to'⟩, n1.1.at fun o => up D.z1, n2.1.at fun o => up D.z2⟩
    · rw [upd_ne (Nat.ne_of_lt (st.lt hq))]
      exact (hf q hq).1
  done := by
    rintro X rfl rfl rfl hc i pins s σ H E I hf st ⟨xs, ys, sx, sy, hend⟩
    obtain ⟨x0, y0, t⟩ := st.to
    obtain ⟨vx, rx, px, _⟩ := I.tuple sx
    obtain ⟨vy, ry, py, _⟩ := I.list sy
    have lx := rx.length
    have ly := ry.length
    have hh : X.A.in1.handled = none := I.ok.hd hc
    obtain ⟨n1, P1, S1, D1, t1, g1, f1⟩ := drawsT_now (prog := X.prog) (w := X.w) hh D.a1.1 st.l1 px
    obtain ⟨n2, P2, S2, D2, t2, g2, f2⟩ := draws_now (prog := X.prog) (w := X.w) hh D.a2.2 st.l2 py.isList
    refine wpAny_pyNext_zipD2_end D.sep D1 D2 st.zz st.ti t t1 t2 g1 g2 ?_ fun h' tk hk => ⟨rfl, I.turnedL (t' := tk) (ch := [z, TI, TO, i1, i2]) (fun q o hq e => ?_) hf⟩
    · rcases hend with e | e
      · exact .inl (f1 (by simp; omega))
      · exact .inr (f2 (by simp; omega))
    · simp only [List.mem_cons, List.not_mem_nil, or_false, not_or] at hq
      exact hk q o hq.1 hq.2.2.1 hq.2.2.2.1 hq.2.2.2.2 e
theorem apart2_new {n a b : Nat} (ha : a < n) (hb : b < n) : Apart2 (n + 4) (n + 2) (n + 3) n (n + 1) a b := by
  have key : ∀ {x y : Nat}, (x < y ∨ y < x) → ¬ @Eq Addr x y := fun h e => by have e : @Eq Nat _ _ := e; omega
  constructor <;> first | (exact key (by omega)) | (refine ⟨key ?_, key ?_⟩ <;> omega)
set_option maxHeartbeats 1000000 in
theorem pi_zipTL {X : Cx} {e e2 : Expr} {ta : TA} {p pos tpos : Pos} {elts : List Expr} {kk : Nat} (hg : Gl X "zip") (hm : X.mg "zip" = none) (ha : PA X [e, e2] ta)
    (hs : starEach [e, e2] X.env = (false, eval e X.env) :: starEach [e2] X.env := by rfl) (hpl : (backTo pos (starEach [e2] X.env)).any (·.1) = false := by rfl) :
    PI X (.Tuple elts kk tpos) (.Call (.Name "zip" p) [e, e2] [] pos) (fun σ H R => ta σ H fun vs H1 => ∃ a b xs ys, vs = [.ref a, .ref b] ∧ SqT X.K H1 a xs ∧ SqL X.K H1 b ys ∧ R (ItzTL X.K a b) H1) := by
  constructor
  intro pins s σ H R I h
  refine Call_ ?_
  refine ld_blt I hg hm PyProof.Rows.boot_zip ?_
  refine PyProof.Rows.callWith_type1 (thn (ha.run pos pins s σ H _ I h) ?_) hs hpl
  rintro us s1 ⟨vs, H1, I1, r1, a, b, xs, ys, rfl, sx, sy, q⟩
  obtain _ | ⟨ra, r1⟩ := r1
  obtain _ | ⟨rb, r1⟩ := r1
  cases r1
  cases ra
  cases rb
  obtain ⟨vx, rx, px, _⟩ := I1.tuple sx
  obtain ⟨vy, ry, py, _⟩ := I1.list sy
  refine zip_begins2 (begins_tuple a vx.toArray) (begins_list b vy.toArray) px py.isList fun h' hz hT hO o1 o2 _ hk => wpAny_pyIter_zip hz ?_
  have I2 : Inv X pins σ H1 { s1 with heap := h' } := I1.kept (t' := s1.toks) hk
  have pxl : a < s1.heap.objs.size := by obtain ⟨_, e, _⟩ := px; exact Heap.lt_size e
  refine ⟨_, _, _, _, H1, rfl, I2, turn_zipTL (apart2_new pxl py.lt), ⟨hz, hT, ⟨_, _, hO⟩, ⟨_, o1, rfl, rfl⟩, ⟨_, o2, rfl, rfl⟩⟩, fun x hx => ?_, q⟩
  have hle : s1.heap.objs.size ≤ x := by
    rcases fp2 hx with rfl | rfl | rfl | rfl | rfl
    all_goals first | exact Nat.le_refl _ | exact Nat.le_add_right _ _
  exact I1.fpOk hle (I1.hok.fresh hle)
theorem wk_zipTL {K : PySem.W.Frag} {B G0 : Hp} {a b : Addr} {vs ws : List V} {xs ys : List D} (h1 : SqT K B a vs) (h2 : SqL K B b ws) (r1 : Rps K G0 vs xs) (r2 : Rps K G0 ws ys) : Wk2 K B G0 (ItzTL K a b) (zipD xs ys) where
  go := fun i H s hi => by
    rw [zipD_length] at hi
    have l1 := r1.length
    have l2 := r2.length
    exact ⟨vs, ws, vs[i], ws[i], ⟨Same.seqT s h1, by simp⟩, s.seq h2, by simp⟩
  stop := fun i H s hi => by
    rw [zipD_length] at hi
    have l1 := r1.length
    have l2 := r2.length
    exact ⟨vs, ws, Same.seqT s h1, s.seq h2, by omega⟩
  yld := fun i H x H' G d s s0 sg y e => by
    obtain ⟨T, u, w, rfl, nT, rfl, y1, y2⟩ := y
    obtain ⟨d1, d2, e1, e2, rfl⟩ := zipD_get e
    obtain ⟨v1, g1, p1⟩ := r1.get e1
    obtain ⟨v2, g2, p2⟩ := r2.get e2
    rw [y1 vs (Same.seqT s h1)] at g1
    rw [y2 ws (s.seq h2)] at g2
    cases g1
    cases g2
    have x2 := Ext.new (o := .tup [u, w]) sg nT
    exact ⟨_, x2, .tup (.inl (.inl upd_same)) (.cons ((p1.mono s0).mono x2.gg) (.cons ((p2.mono s0).mono x2.gg) .nil))⟩
section
variable {X : Cx} {e e2 : Expr} {me me2 : EM} {p pos : Pos}
def iZpTL (me me2 : EM) : En → Option (List D) := fun env => (me env).bind fun t => (me2 env).bind fun u => t.ptup?.bind fun xs => u.fzl?.map fun ys => zipD xs ys
theorem pim_zipTL {elts : List Expr} {kk : Nat} {tpos : Pos} (hg : Gl X "zip") (hm : X.mg "zip" = none) (he : PM X e me) (he2 : PM X e2 me2) (hs : starEach [e, e2] X.env = (false, eval e X.env) :: starEach [e2] X.env := by rfl)
    (hs2 : starEach [e2] X.env = (false, eval e2 X.env) :: starEach [] X.env := by rfl) (hpl : (backTo pos (starEach [e2] X.env)).any (·.1) = false := by rfl) :
    PIM X (.Tuple elts kk tpos) (.Call (.Name "zip" p) [e, e2] [] pos) true (iZpTL me me2) := by
  refine PI_imp (pi_zipTL hg hm (pam_cons he (pam_cons he2 pam_nil hs2) hs) hs hpl) fun σ H R h => ?_
  obtain ⟨G, env, F, rel, ds, e1, q⟩ := h
  simp only [iZpTL, Option.bind_eq_some_iff, Option.map_eq_some_iff] at e1
  obtain ⟨t, e2, u, e3, xs, e5, ys, e6, rfl⟩ := e1
  refine ⟨G, env, F, rel, [t, u], by simp [aCons, aNil, e2, e3], fun vs H' G' x r => ?_⟩
  obtain ⟨v, w, F', F2, rfl, h, h'⟩ := r.two
  obtain ⟨a, vs, rfl, h1, p1⟩ := h.ptup e5
  obtain ⟨b, ws, rfl, h2, p2⟩ := h'.fzl e6
  exact ⟨a, b, vs, ws, rfl, Same.seqT x.gh h1, x.gh.seq h2, q _ H' G' x (wk_zipTL h1 h2 p1 p2)⟩
/-- both ways: the first that does -/
def iOr (m m' : En → Option (List D)) : En → Option (List D) := fun env => match m env with
  | some ds => some ds
  | none => m' env
theorem pim_or {tg iter : Expr} {fz : Bool} {m m' : En → Option (List D)} (h : PIM X tg iter fz m) (h' : PIM X tg iter fz m') : PIM X tg iter fz (iOr m m') := by
  refine ⟨fun pins s σ H R I q => ?_⟩
  obtain ⟨G, env, F, rel, ds, e1, q⟩ := q
  simp only [iOr] at e1
  split at e1
  · rename_i ds' e2
    cases e1
    exact h.run pins s σ H R I ⟨G, env, F, rel, _, e2, q⟩
  · exact h'.run pins s σ H R I ⟨G, env, F, rel, _, e1, q⟩
def iZpM (me me2 : EM) : En → Option (List D) := iOr (iZp me me2) (iZpTL me me2)
theorem pim_zipM {elts : List Expr} {kk : Nat} {tpos : Pos} (hg : Gl X "zip") (hm : X.mg "zip" = none) (he : PM X e me) (he2 : PM X e2 me2) (hs : starEach [e, e2] X.env = (false, eval e X.env) :: starEach [e2] X.env := by rfl)
    (hs2 : starEach [e2] X.env = (false, eval e2 X.env) :: starEach [] X.env := by rfl) (hpl : (backTo pos (starEach [e2] X.env)).any (·.1) = false := by rfl) :
    PIM X (.Tuple elts kk tpos) (.Call (.Name "zip" p) [e, e2] [] pos) true (iZpM me me2) := pim_or (pim_zip hg hm he he2 hs hs2 hpl) (pim_zipTL hg hm he he2 hs hs2 hpl)
end
end M
namespace M
open PySem PySem.Spec PyProof.Rows L2

abbrev XM := En → Option En
abbrev XB := En → Bool
def tXE (K : PySem.W.Frag) (W : WX) (cls : Value) (m : XB) : TE := fun σ H _ => ∃ G env F, Rel K G H env σ F ∧ m env = true ∧ ∀ G' H', Ext G H G' H' → W cls none σ H'
def PX (X : Cx) (e : Expr) (cls : Value) (m : XB) : Prop := ∀ W : WX, L2N.Takes X W → PE X e (tXE X.K W cls m)
section
variable {X : Cx} {st : Stmt} {rest sts : List Stmt} {cls : Value} {m m' : XM} {mb : XB} {ma : SM} {e : Expr} {pos : Pos}
end
section
variable {X : Cx} {k np : Nat} {f : Addr} {fd : FuncData} {ps : List Str} {cls : Value} {fx : List T → Bool} {x : Str} {e : Expr} {es : List Expr} {ms : En → Option (List T)} {p pos : Pos}
end
end M
namespace M
open PySem PySem.Spec PyProof.Rows L2

/-- a class of exceptions of the program's -/
structure ExC (K : PySem.W.Frag) (C : Addr) : Prop where
  hcl : (PySem.W.clsIn K C).isSome = true
  hga : PySem.W.findIn K (.ref C) "__getattribute__" = some (some (.builtin "BaseException.__getattribute__"))
  hgt : PySem.W.findIn K (.ref C) "__getattr__" = some none
  hsub : PySem.W.subIn K (.ref C) (.type "BaseException") = some true
  ha : PySem.W.findIn K (.ref C) "__class__" = some (some (.builtin "object.__class__"))
  hn : PySem.W.specialIn K (.builtin "object.__class__") "__get__" = some (some (.builtin "getset_descriptor.__get__"))
  htk : PySem.W.takesIn K (.builtin "object.__class__") = some true
  hm : PySem.W.mroIn K C (.type "object") = some true
/-- the exception at a is told of by the context -/
structure Caught (X : Cx) (a C : Addr) : Prop where
  ex : ∃ oe : Obj, (a, oe) ∈ X.pn ∧ oe.cls = .ref C ∧ oe.dict = none ∧ ∃ vs, oe.data = .fields vs
section
variable {X : Cx} {a C : Addr} {y : Str} {p p1 p2 pos : Pos} {b : Bool}
end
section
variable {X : Cx} {a : Addr} {e1 e2 e3 e4 e5 e6 e7 e8 : Expr} {b1 b2 b3 b4 b5 b6 b7 b8 : Bool} {q1 q2 q3 q4 q5 q6 q7 q8 q9 q10 q11 pos' : Pos}
end
end M
namespace M
open PySem PySem.Spec PyProof.Rows L2 L2H

section
variable {X : Cx} {k : Nat} {f : Addr} {fd : FuncData} {N ps : List Str} {x y qual : Str} {st : Stmt} {q pos p1 : Pos} {e : Expr} {es : List Expr} {t : TA} {tb : TS} {pn : Addr × Obj}
end
section
variable {X : Cx} {x n : Str} {c : Value} {C : Addr} {ie ik : Nat} {body suite : List Stmt} {b₀ : Stmt} {np pos pos' : Pos} {bs : List Bool} {mb : SM} {mx : XM}
end
end M
namespace M
open PySem PySem.Spec PyProof.Rows L2 L2H
section
variable {X : Cx} {k : Nat} {f : Addr} {fd : FuncData} {N : List Str} {y qual : Str} {st : Stmt} {a C : Addr} {oe : Obj} {cls : Value} {d : Option Addr} {pn : List (Addr × Obj)} {ie ik : Nat} {bs : List Bool} {q1 q2 q3 q4 q5 : Pos}
end
section
variable {X : Cx} {e tg elt : Expr} {ifs : List Expr} {scope : Scope} {cls : Value} {mb : XB} {pos : Pos}
end
end M
namespace M
open PySem PySem.Spec PyProof.Rows L2
section
variable {K : PySem.W.Frag} {G H : Hp}
theorem Rp.flatG {v : V} {d : D} (r : Rp K G v d) (hf : flatD d = true) (G' : Hp) : Rp K G' v d := by
  cases r with
  | non => exact .non
  | bl b => exact .bl b
  | int i => exact .int i
  | str y => exact .str y
  | lst _ _ => simp [flatD] at hf
  | tup _ _ => simp [flatD] at hf
  | dct _ _ => simp [flatD] at hf
theorem Rps.flat : ∀ {vs : List V} {ds : List D}, Rps K G vs ds → ds.all flatD = true → ∀ G', Rps K G' vs ds
  | _, _, .nil, _, _ => .nil
  | _, _, .cons r rs, hf, G' => by
    rw [List.all_cons, Bool.and_eq_true] at hf
    exact .cons (r.flatG hf.1 G') (Rps.flat rs hf.2 G')
end
section
variable {X : Cx} {k np : Nat} {f : Addr} {fd : FuncData} {ps : List Str} {fn : List T → Option T} {x : Str} {e : Expr} {es : List Expr} {ms : En → Option (List T)} {p pos : Pos}
end
section
variable {K : PySem.W.Frag} {G H : Hp}
end
section
variable {X : Cx} {st : Stmt} {m : SM}
end
end M
namespace M
open PySem PySem.Spec PyProof.Rows L2
section
variable {prog : Program} {w : World} {A : Around} {E : Value → Shared → Prop} {s : Shared}
/-- the heap with the items of us collected -/
abbrev gath (h : Heap) (us : List Value) : Heap := (h.push (seqObj "list" #[] 0)).update h.objs.size (Obj.mapSeq (· ++ us.toArray))
theorem gath_tup {at' : Addr} {us : List Value} {Q : List Value → Shared → Prop} (ht : s.heap.IsTuple at' us.toArray) (hn : us.length ≤ sizeLine) (q : Q us { s with heap := gath s.heap us }) : wpAny (model prog w) A (collect (.ref at')) Q E s := by
  obtain ⟨ob, e1, e2, nn, e3⟩ := id ht
  have e1' : (s.heap.push (seqObj "list" #[] 0)).get? at' = some ob := Heap.get?_push_of_some _ e1
  have new : (s.heap.push (seqObj "list" #[] 0)).get? s.heap.objs.size = some (seqObj "list" #[] 0) := Heap.get?_push_size _ rfl
  unfold collect
  refine wpAny_bind (wpAny_runValue (codeAny_builtin entry_proto_collect' ?_))
  show wpAny _ _ (do again (.builtin "list.__iadd__" ⟨[← newList [], .ref at'], []⟩)) _ _ s
  refine wpAny_bind (wpAny_newList (wpAny_pure ⟨Code.quiet_builtin _ (by decide +kernel), codeAny_builtin entry_list_iadd' ?_⟩))
  show wpAny _ _ (Builtin.List.listExtendWith (.ref s.heap.objs.size) (.ref at') (.ref s.heap.objs.size)) _ _ ({ s with heap := s.heap.push (seqObj "list" #[] 0) } : Shared)
  unfold Builtin.List.listExtendWith
  refine wpAny_bind (wpAny_typeOf (T := "tuple") ⟨ob, e1', e2⟩ ?_)
  have tt : (Value.type "tuple" == Value.type "tuple") = true := rfl
  rw [if_pos (by rw [tt, Bool.or_true])]
  refine wpAny_bind (listItems_at e1' e3 (wpAny_bind (listItems_at (xs := #[]) (n := 0) new rfl ?_)))
  rw [if_neg (by simp)]
  refine wpAny_bind (listUpdate_at (xs := #[]) (n := 0) new rfl (wpAny_pure ?_) (Nat.zero_le _) (by show (#[] ++ us.toArray).size ≤ sizeLine + 1; simp; omega))
  show wpAny (model prog w) A (load s.heap.objs.size >>= fun o => match o.data with
      | .seq xs _ => pure xs.toList
      | _ => unsupported "internal:collect") Q E { s with heap := gath s.heap us }
  refine wpAny_bind (wpAny_load (get?_update_seq new _) ?_)
  have ee : ((#[] : Array Value) ++ us.toArray).toList = us := by simp
  show wpAny _ _ (pure ((#[] : Array Value) ++ us.toArray).toList) Q E _
  rw [ee]
  exact wpAny_pure q
theorem sort_tup {at' : Addr} {us : List Value} {ns : List Int} {Q : Value → Shared → Prop} (ht : s.heap.IsTuple at' us.toArray) (hn : us.length ≤ sizeLine) (hi : IntsAre us ns)
    (q : ∀ out : List Value, SrtO.Srtd SrtO.ltIv out → SrtO.Stb SrtO.ltIv out us → Q (.ref (s.heap.objs.size + 1)) { s with heap := sortedAll s.heap us out.toArray }) :
    wpAny (model prog w) A (call (.builtin "sorted") [.ref at']) Q E s := by
  refine Calls.call_function_entry kind_sorted plain_sorted entry_sorted (args_sorted1 _) ?_
  unfold Builtin.«sorted»
  refine wpAny_bind (m := checkCount "sorted" 1 1 _) (wpAny_pure (wpAny_bind (gath_tup ht hn (wpAny_bind (wpAny_newList ?_ hn)))))
  have sz : (gath s.heap us).objs.size = s.heap.objs.size + 1 := by rw [Heap.size_update, size_push']
  have at1 : ((gath s.heap us).push (seqObj "list" us.toArray 0)).get? (s.heap.objs.size + 1) = some (seqObj "list" us.toArray 0) := by
    have := Heap.get?_push_size (gath s.heap us) (o := seqObj "list" us.toArray 0) rfl
    rwa [sz] at this
  show wpAny _ _ _ _ _ ({ s with heap := (gath s.heap us).push (seqObj "list" us.toArray 0) } : Shared)
  rw [sz]
  refine wpAny_bind (wpAny_holding (wpAny_call_entry slot_list_sort ⟨_, at1, rfl⟩ entry_list_sort (SrtO.list_sort_ord SrtO.swo_int at1 hn (fun h2 => SrtO.ints_sortable hi h2) fun out a b => ⟨_, rfl, wpAny_pure ⟨_, rfl, q out a b⟩⟩) (args_list_sort _)))
end
/-- sorted(t), ints -/
def rSortTup (K : PySem.W.Frag) : List V → Hp → VK → Prop := fun vs H Q => ∃ (a : Addr) (ns : List Int), vs = [V.ref a] ∧ SqT K H a (ns.map V.int) ∧
  ∀ (ns' : List Int) (p : Addr), ns'.Perm ns → ns'.Pairwise (· ≤ ·) → H p = none → Q (.ref p) (upd H p (.lst (ns'.map V.int)))
def rSortAny (K : PySem.W.Frag) : List V → Hp → VK → Prop := fun vs H Q => rSortedI K vs H Q ∨ rSortTup K vs H Q
section
variable {X : Cx}
theorem cr_sortTup : CallR X (.builtin "sorted") (rSortTup X.K) := by
  intro pins s σ H vs us Q I r h
  obtain ⟨a, ns, rfl, hs, q⟩ := h
  obtain ⟨its, rv, pl, hz⟩ := I.tuple hs
  rw [Vals.ref1 r]
  have hi := rv.ints
  refine sort_tup (us := its) pl (by rw [← rv.length]; exact hz) hi fun out h1 h2 => ?_
  obtain ⟨k1, k2, k3⟩ := SrtO.ints_out hi h1 h2
  obtain ⟨ep, he'⟩ := PyProof.Rows.sortedAll_at s.heap its out.toArray
  have hlen : ((out.map SrtO.iv).map V.int).length ≤ sizeLine := by
    have e := k2.length_eq
    simp only [List.length_map] at hz e ⊢
    omega
  have new : H (s.heap.objs.size + 1) = none := I.hok.fresh (Nat.le_succ _)
  refine ⟨.ref _, upd H (s.heap.objs.size + 1) (.lst ((out.map SrtO.iv).map V.int)), ?_, rfl, q _ _ k2 k3 new⟩
  exact I.laid (t' := s.toks) (fun _ _ => PyProof.Rows.sortedAll_old) (Nat.le_succ _) ⟨hlen, out, ep, vals_of_ints k1, he'⟩
theorem cr_sortAny : CallR X (.builtin "sorted") (rSortAny X.K) := by
  intro pins s σ H vs us Q I r h
  rcases h with h | h
  · exact cr_sortedI pins s σ H vs us Q I r h
  · exact cr_sortTup pins s σ H vs us Q I r h
end
def sortAnyT : List T → Option T
  | [t] => t.any?.bind fun ds => (intsOf ds).map fun ns => .p (.list ((sortI ns).map PyData.int))
  | _ => none
theorem cm_sortAny {K : PySem.W.Frag} : CM K (rSortAny K) sortAnyT := by
  intro G H ts t xs e s r Q q
  unfold sortAnyT at e
  split at e
  · simp only [Option.bind_eq_some_iff, Option.map_eq_some_iff] at e
    obtain ⟨ds, e1, ns, e2, rfl⟩ := e
    obtain ⟨v, F, rfl, h⟩ := r.one
    obtain ⟨a, vs, rfl, h1, p1⟩ := h.any s e1
    rw [intsOf_eq e2] at p1
    rw [p1.ints] at h1
    have fin : ∀ (ns' : List Int) (p : Addr), ns'.Perm ns → ns'.Pairwise (· ≤ ·) → H p = none → Q (.ref p) (upd H p (.lst (ns'.map V.int))) := fun ns' p hp hs np => by
      have : ns' = sortI ns := PySem.W.ksm_same (hp.trans (sortI_perm ns).symm) hs (sortI_pair ns)
      subst this
      exact q _ _ _ [] (Ext.new (o := .lst ((sortI ns).map V.int)) s np) (.p (.lst upd_same (Rps.of_ints _)))
    rcases h1 with h1 | h1
    · exact .inl ⟨a, ns, rfl, h1, fin⟩
    · exact .inr ⟨a, ns, rfl, h1, fin⟩
  · cases e
end M
namespace M
open PySem PySem.Spec PyProof.Rows L2
/-- a set just made -/
abbrev nset (w : World) : Obj := { cls := .type "set", dict := none, data := .set #[] 0 (.fresh 0 0 (!w.params.followText "set-order")) }
section
variable {P : Program} {w : World} {A : Around} {E : Value → Shared → Prop} {s : Shared}
set_option maxHeartbeats 3200000 in
theorem set_of_list {lx : Addr} {its : Array Value} (ns : List Int) {Q : Value → Shared → Prop} (nh : A.handled = none) (il : s.heap.IsList lx its) (ia : IntsAre its.toList ns) (sb : ns.length + 1 < scanBound)
    (fin : ∀ (g : Heap) (tk c : Nat), SetR w g s.heap.objs.size (fun j => decide (j ∈ ns)) c → c ≤ ns.length → (∀ b o, s.heap.get? b = some o → g.get? b = some o) → Q (.ref s.heap.objs.size) { s with heap := g, toks := tk }) :
    wpAny (model P w) A (call (.type "set") [.ref lx]) Q E s := by
  have len : its.size = ns.length := by have q := IntsAre.length ia; rwa [Array.length_toList] at q
  obtain ⟨cc, rest, mro⟩ := F.called_set.mro
  have m1 := F.called_set.made
  have m2 := F.called_set.sub
  refine wpAny_call (codeAny_of_tree (show wpAny _ _ (callAny (.type "set") _) _ _ _ from ?_))
  refine wpAny_pure ⟨Code.quiet_builtin _ (by decide +kernel), codeAny_builtin F.entry_type_call ?_⟩
  rw [Around.under_plain (weight_type_call_type "set" [.ref lx] []) rfl]
  have m3 := F.called_set.notType
  have m4 := F.called_set.canCreate
  have m5 := F.typeCall_set_1 (.ref lx)
  repeat (any_goals (first | assumption | wp_step))
  refine codeAny_mono (code_set_led1 (.ref lx) (E := E) (Q₁ := fun o1 t1 => o1 = .ref s.heap.objs.size ∧ t1 = { s with heap := s.heap.push (nset w) }) ⟨rfl, rfl⟩) fun re t1 hre => ?_
  cases re with
  | error x => exact hre
  | ok fl =>
    cases fl with
    | ret o1 =>
      obtain ⟨rfl, rfl⟩ := hre
      have new : (s.heap.push (nset w)).get? s.heap.objs.size = some (nset w) := Heap.get?_push_size _ rfl
      have ty : Shared.TypeIs { s with heap := s.heap.push (nset w) } (.ref s.heap.objs.size) "set" := ⟨_, new, rfl⟩
      have i1 := F.called_set.init.lookup
      have i2 := F.called_set.init.bind (.ref s.heap.objs.size)
      repeat (any_goals (first | assumption | wp_step))
      refine codeAny_mono (codeAny_call_builtin (R := wants (fun re t2 => re = .none ∧ ∃ g tk c, t2 = { s with heap := g, toks := tk } ∧ SetR w g s.heap.objs.size (fun j => decide (j ∈ ns)) c ∧ c ≤ ns.length ∧ (∀ b o, s.heap.get? b = some o → g.get? b = some o)) E) F.called_set.init.plain F.entry_set_init (check_set_init_1 ty ?_)) fun re2 t2 h2 => ?_
      · obtain ⟨lo, e1, e2, nl, e3⟩ := il
        obtain ⟨k1, k2, k3, k4⟩ := lo
        simp only at e2 e3
        subst e2; subst e3
        have at1 : (s.heap.push (nset w)).get? lx = some { cls := .type "list", dict := k2, data := .seq its nl, slots := k4 } := Heap.get?_push_of_some _ e1
        have u1 := F.sub_list_set
        have u2 := F.sub_list_frozenset
        have u3 : (Value.type "list" == Value.type "dict") = false := by decide
        have isl : (s.heap.push (nset w)).IsList lx its := ⟨_, at1, rfl, nl, rfl⟩
        unfold Builtin.«set.__init__» noKeywords Builtin.Frozenset.updateFrom
        generalize pe : pyIter = PI
        wp_walk
        subst pe
        refine wpAny_pyIter_list isl (wpAny_bind (wpAny_runValue ?_))
        have lt0 : lx < s.heap.objs.size := Heap.lt_size e1
        have nh3 : A.in1.in1.in1.handled = none := by simp [nh]
        have ne1 : lx ≠ (s.heap.push (nset w)).objs.size := by rw [Heap.size_push]; exact Nat.ne_of_lt (Nat.lt_succ_of_lt lt0)
        have nf : s.heap.objs.size ∉ [(s.heap.push (nset w)).objs.size, lx] := by
          rw [Heap.size_push]
          simp only [List.mem_cons, List.not_mem_nil, or_false, not_or]
          exact ⟨Nat.ne_of_lt (Nat.lt_succ_self _), Nat.ne_of_gt lt0⟩
        have vals : ∀ (i : Nat) (v : Value), its[i]? = some v → ∃ k t, ns[i]? = some k ∧ v = .int k t := fun i v hv => by
          have hi : i < ns.length := len ▸ (Array.getElem?_eq_some_iff.mp hv).1
          obtain ⟨t, e⟩ := PyProof.Rows.IntsAre.int_at ia i v ((Array.getElem?_toList).trans hv)
          have e4 : ns[i]? = some ns[i] := List.getElem?_eq_getElem hi
          exact ⟨ns[i], t, e4, by rw [e, List.getD_eq_getElem?_getD, e4] <;> rfl⟩
        refine set_update_ints ((Walks.list nh3 _ lx ne1 its).toS) s.heap.objs.size nf ns len sb vals (its.size - 0) 0 _ (by omega) (Nat.zero_le _) ⟨⟨_, Heap.get?_push_size _ rfl, rfl, rfl⟩, (isl.push _)⟩ ⟨0, Nat.le_refl 0, setR_new_at (Heap.get?_push_of_some _ new)⟩ fun t3 c3 mv c4 st => ?_
        obtain ⟨g, y1, y2, y3, y4⟩ := t3
        have z1 : y1 = s.gens := mv.gens
        have z2 : y2 = s.drawn := mv.drawn
        have z3 : y4 = s.os := mv.os
        subst z1; subst z2; subst z3
        refine (show wpAny _ _ _ _ _ _ from wpAny_pure (show wpAny _ _ (ret Value.none) _ _ _ from wpAny_pure ⟨rfl, g, y3, c3, rfl, st, len ▸ c4, fun b o e => ?_⟩))
        have b0 : b < s.heap.objs.size := Heap.lt_size e
        refine mv.heap b o ?_ (Heap.get?_push_of_some _ (Heap.get?_push_of_some _ e))
        rw [Heap.size_push]
        simp only [List.mem_cons, List.not_mem_nil, or_false, not_or]
        exact ⟨Nat.ne_of_lt b0, Nat.ne_of_lt (Nat.lt_succ_of_lt b0)⟩
      · cases re2 with
        | error x => exact h2
        | ok fl2 =>
          cases fl2 with
          | ret v2 =>
            obtain ⟨rfl, g, tk, c, rfl, q1, q2, q3⟩ := h2
            repeat (any_goals (first | assumption | wp_step))
            exact fin _ _ _ q1 q2 q3
          | _ => exact h2.elim
    | _ => exact hre.elim
end
section
variable {X : Cx}
def tSortSet (K : PySem.W.Frag) (ta : TE) : TE := fun σ H Q => ta σ H fun x H1 => ∃ (l : Addr) (ns : List Int), x = .ref l ∧ SqL K H1 l (ns.map V.int) ∧ ns.length < 64 ∧
  ∀ (ms : List Int) (p : Addr), ms.Pairwise (· < ·) → (∀ k : Int, k ∈ ms ↔ k ∈ ns) → H1 p = none → Q (.ref p) (upd H1 p (.lst (ms.map V.int)))
theorem pe_sortSet {a : Expr} {ta : TE} {p p2 q pos : Pos} (hg : Gl X "sorted") (hm : X.mg "sorted" = none) (hg2 : Gl X "set") (hm2 : X.mg "set" = none) (hc : X.calm = true) (ha : PE X a ta)
    (na : starEach [a] X.env = (false, eval a X.env) :: starEach [] X.env := by rfl) : PE X (.Call (.Name "sorted" p) [.Call (.Name "set" p2) [a] [] q] [] pos) (tSortSet X.K ta) := by
  refine ⟨fun pins s σ H Q I h => Call_ (ld_blt I hg hm boot_sorted (callWith_builtin1 (args_cons (Call_ (ld_blt I hg2 hm2 boot_set (callWith_type1 (args_cons (thn (ha.run pins s σ H _ I h) fun v s1 z => args_nil ?_) na) na rfl))) rfl) rfl rfl))⟩
  obtain ⟨x, H1, I1, r1, l, ns, rfl, hq, hl, q1⟩ := z
  cases r1
  obtain ⟨its, r, pl, hz⟩ := I1.list hq
  have hlen : its.length = ns.length := by rw [← r.length, List.length_map]
  refine set_of_list ns (I1.ok.hd hc) pl.isList (by simpa using r.ints) (by unfold scanBound; omega) fun h' tk c hS hcl hk => args_nil ?_
  have I2 : Inv X pins σ H1 { s1 with heap := h', toks := tk } := I1.kept hk
  have hS : SetR X.w ({ s1 with heap := h', toks := tk } : Shared).heap s1.heap.objs.size (fun j => decide (j ∈ ns)) c := hS
  generalize ({ s1 with heap := h', toks := tk } : Shared) = s2 at I2 hS ⊢
  refine sorted_set hS (I2.ok.hd hc) (by omega) fun s' p out c ns' k g o hp hg hi hs hmm hl => ?_
  have hln : (ns'.map V.int).length ≤ sizeLine := by rw [List.length_map, hl, sizeLine_eq]; omega
  have hn : H1 p = none := I2.hok.fresh hp
  have J : Inv X pins σ (upd H1 p (.lst (ns'.map V.int))) { s2 with heap := s'.heap, gens := s'.gens, drawn := s'.drawn, toks := s'.toks } :=
    I2.call (ch := []) (Un.laid k hp hn) (I2.hok.laid k hp ⟨hln, out.toList, c, vals_of_ints hi, hg⟩) (by rw [g]; exact I2.bare) (fun _ z => nomatch z)
  have e : s' = { s2 with heap := s'.heap, gens := s'.gens, drawn := s'.drawn, toks := s'.toks } := by
    cases s'; cases s2; cases o; rfl
  rw [e]
  exact ⟨.ref p, _, J, rfl, q1 ns' p hs (fun k => by rw [hmm k]; simp) hn⟩
end
def sortSetT : List T → Option T
  | [t] => t.seq?.bind fun ds => (intsOf ds).bind fun ns => if ns.length < 64 then some (.p (.list ((sortI (ddup ns)).map PyData.int))) else none
  | _ => none
theorem pm_sortSet {X : Cx} {a : Expr} {m : EM} {p p2 q pos : Pos} (hg : Gl X "sorted") (hm : X.mg "sorted" = none) (hg2 : Gl X "set") (hm2 : X.mg "set" = none) (hc : X.calm = true) (ha : PM X a m)
    (na : starEach [a] X.env = (false, eval a X.env) :: starEach [] X.env := by rfl) : PM X (.Call (.Name "sorted" p) [.Call (.Name "set" p2) [a] [] q] [] pos) (mCall sortSetT (aCons m aNil)) := by
  refine PE_imp (pe_sortSet hg hm hg2 hm2 hc ha na) fun σ H Q h => ?_
  obtain ⟨G, env, F, rel, t, e, k⟩ := h
  simp only [mCall, aCons, aNil, Option.bind_eq_some_iff, Option.map_eq_some_iff] at e
  obtain ⟨ts, ⟨u, e1, us, e2, rfl⟩, e3⟩ := e
  cases e2
  simp only [sortSetT, Option.bind_eq_some_iff] at e3
  obtain ⟨ds, e4, ns, e5, e6⟩ := e3
  split at e6
  · rename_i hz
    cases e6
    refine ⟨G, env, F, rel, u, e1, fun v H' G' F' x r => ?_⟩
    obtain ⟨a, vs, rfl, h1, p1⟩ := r.seq x.gh e4
    rw [intsOf_eq e5] at p1
    rw [p1.ints] at h1
    refine ⟨a, ns, rfl, h1, hz, fun ms p hs hmm np => ?_⟩
    have nd : ms.Nodup := hs.imp fun h => by omega
    have pm : ms.Perm (ddup ns) := (List.perm_ext_iff_of_nodup nd (nodup_ddup ns)).mpr fun k => by rw [hmm, mem_ddup]
    have : ms = sortI (ddup ns) := PySem.W.ksm_same (pm.trans (sortI_perm _).symm) (hs.imp fun h => by omega) (sortI_pair _)
    subst this
    exact k _ _ _ [] (x.trans (Ext.new (o := .lst ((sortI (ddup ns)).map V.int)) x.gh np)) (.p (.lst upd_same (Rps.of_ints _)))
  · cases e6
end M
noncomputable section
open PySem PySem.Spec PyProof.Rows L2 M
def Q.law_draws_L1 : SM := sCons (sSet 5 (mOp modT (mOp addT (mOp addT (mOp addT (mOp mulT (mVar 5) (mVar 5)) (mOp mulT (mC (.int 48271)) (mVar 5))) (mVar 6)) (mC (.int 1))) (mC (.int 2305843009213693951)))) (sIf (bAnd (bOp gtT (mVar 6) (mC (.int 2))) (bOp gtT (mVar 4) (mC (.int 0)))) (sCons (sAppend (pVar 3) (mOp modT (mVar 4) (mVar 2))) (sSet 4 (mOp fdivT (mVar 4) (mVar 2)))) (sIf (bOp gtT (mVar 6) (mC (.int 2))) (sAppend (pVar 3) (mOp modT (mOp fdivT (mVar 5) (mC (.int 4096))) (mVar 2))) (sNil)))
def Q.law_draws : List T → Option T := runFn 7 (sCons (sSetF 3 (mLstF (aNil))) (sCons (sSet 4 (mOp mulT (mVar 0) (mCall intT (aCons (mOp geT (mVar 0) (mOp powT (mC (.int 10)) (mC (.int 18)))) (aNil))))) (sCons (sSet 5 (mOp modT (mVar 0) (mC (.int 2305843009213693951)))) (sCons (sFor (iRng1 (mOp addT (mVar 1) (mC (.int 3)))) (gNm 6) (Q.law_draws_L1)) (sRetV 3)))))
def Q.law_cell_at : List T → Option T := runFn 2 (sCons (sIf (bOp ltT (mVar 1) (mCall lenT (aCons (mVar 0) (aNil)))) (sRet (mOp idxT (mVar 0) (mVar 1))) (sNil)) (sRet (mC (.int 0))))
def Q.law_mixed_L1 : SM := sInsert (pVar 2) (mOp modT (mOp idxT (mVar 1) (mVar 3)) (mOp addT (mCall lenT (aCons (mVar 2) (aNil))) (mC (.int 1)))) (mVar 4)
def Q.law_mixed : List T → Option T := runFn 5 (sCons (sSetF 2 (mLstF (aNil))) (sCons (sFor (iEn (mVar 0)) (gTp (gCn (gNm 3) (gCn (gNm 4) (gNl)))) (Q.law_mixed_L1)) (sRetV 2)))
def Q.law_a_log_L1 : SM := sCons (sSet 8 (mOp modT (mVar 7) (mOp idxT (mLst (aCons (mC (.int 8)) (aCons (mC (.int 20)) (aCons (mC (.int 100)) (aNil))))) (mOp modT (mOp idxT (mVar 3) (mC (.int 14))) (mC (.int 3)))))) (sIf (bOp notInT (mVar 8) (mVar 5)) (sAppend (pVar 5) (mVar 8)) (sNil))
def Q.law_a_log_L2 : SM := sCons (sSet 11 (mCall (callT Q.law_draws) (aCons (mOp addT (mCall (callT Q.law_cell_at) (aCons (mVar 0) (aCons (mOp addT (mVar 1) (mC (.int 1))) (aNil)))) (mOp mulT (mVar 10) (mOp addT (mOp idxT (mVar 3) (mC (.int 15))) (mC (.int 1))))) (aCons (mC (.int 30)) (aCons (mOp powT (mC (.int 10)) (mC (.int 6))) (aNil)))))) (sCons (sSet 12 (mOp modT (mOp fdivT (mOp idxT (mVar 11) (mC (.int 29))) (mC (.int 8))) (mCall lenT (aCons (mVar 5) (aNil))))) (sCons (sSet 13 (mSlice (mOp mulT (mVar 5) (mC (.int 2))) (oSome (mVar 12)) (oSome (mOp addT (mVar 12) (mCall minT (aCons (mC (.int 12)) (aCons (mCall lenT (aCons (mVar 5) (aNil))) (aNil)))))))) (sCons (sSet 14 (mLc (iEn (mVar 13)) [19, 8] (gTp (gCn (gNm 19) (gCn (gNm 8) (gNl)))) (bOp gtT (mOp modT (mOp idxT (mVar 11) (mVar 19)) (mC (.int 3))) (mC (.int 0))) (mVar 8))) (sCons (sSet 14 (mOrL (mVar 14) (mLst (aCons (mOp idxT (mVar 5) (mOp modT (mOp idxT (mVar 11) (mC (.int 14))) (mCall lenT (aCons (mVar 5) (aNil))))) (aNil))))) (sCons (sSet 14 (mCall (callT Q.law_mixed) (aCons (mVar 14) (aCons (mSlice (mVar 11) (oSome (mC (.int 15))) (oSome (mC (.int 29)))) (aNil))))) (sCons (sSet 15 (mOp idxT (mLst (aCons (mC (.int 1)) (aCons (mC (.int 20)) (aNil)))) (mOp modT (mOp idxT (mVar 3) (mC (.int 16))) (mC (.int 2))))) (sCons (sSet 16 (mLc (iSeqB (mVar 14)) [8] (gNm 8) (bYes) (mOp fdivT (mOp modT (mOp addT (mOp mulT (mOp modT (mOp idxT (mVar 3) (mC (.int 2))) (mC (.int 97))) (mVar 8)) (mOp idxT (mVar 3) (mC (.int 3)))) (mC (.int 97))) (mVar 15)))) (sCons (sSet 17 (mCall minT (aCons (mVar 16) (aNil)))) (sCons (sSet 18 (mLc (iEn (mVar 14)) [19, 8] (gTp (gCn (gNm 19) (gCn (gNm 8) (gNl)))) (bOp eqT (mOp idxT (mVar 16) (mVar 19)) (mVar 17)) (mVar 8))) (sCons (sIf (bOr (bOp eqT (mOp modT (mOp idxT (mVar 3) (mC (.int 17))) (mC (.int 3))) (mC (.int 0))) (bOp eqT (mOp modT (mOp idxT (mVar 11) (mC (.int 29))) (mC (.int 8))) (mC (.int 0)))) (sCons (sSet 18 (mLc (iEn (mVar 14)) [19, 8] (gTp (gCn (gNm 19) (gCn (gNm 8) (gNl)))) (bOp eqT (mOp modT (mOp idxT (mVar 11) (mOp addT (mC (.int 15)) (mVar 19))) (mC (.int 3))) (mC (.int 0))) (mVar 8))) (sSet 18 (mOrL (mVar 18) (mSlice (mVar 14) (oNone) (oSome (mC (.int 1))))))) (sNil)) (sAppend (pVar 9) (mTup (aCons (mCall tupleT (aCons (mVar 14) (aNil))) (aCons (mCall tupleT (aCons (mCall (callT Q.law_mixed) (aCons (mVar 18) (aCons (mSlice (mVar 11) (oSome (mC (.int 1))) (oSome (mC (.int 15)))) (aNil)))) (aNil))) (aNil)))))))))))))))
def Q.law_a_log : List T → Option T := runFn 20 (sCons (sSet 3 (mCall (callT Q.law_draws) (aCons (mCall (callT Q.law_cell_at) (aCons (mVar 0) (aCons (mVar 1) (aNil)))) (aCons (mC (.int 20)) (aCons (mOp powT (mC (.int 10)) (mC (.int 6))) (aNil)))))) (sCons (sSet 4 (mOp addT (mC (.int 1)) (mOp modT (mOp idxT (mVar 3) (mC (.int 0))) (mVar 2)))) (sCons (sSetF 5 (mLstF (aNil))) (sCons (sSet 6 (mCall (callT Q.law_draws) (aCons (mCall (callT Q.law_cell_at) (aCons (mVar 0) (aCons (mOp addT (mVar 1) (mC (.int 2))) (aNil)))) (aCons (mC (.int 40)) (aCons (mOp powT (mC (.int 10)) (mC (.int 6))) (aNil)))))) (sCons (sFor (iSeq (mOp addT (mSlice (mVar 3) (oSome (mC (.int 1))) (oSome (mOp addT (mOp addT (mC (.int 1)) (mC (.int 2))) (mOp modT (mOp idxT (mVar 3) (mC (.int 13))) (mC (.int 11)))))) (mSlice (mVar 6) (oNone) (oSome (mOp mulT (mC (.int 40)) (mCall intT (aCons (mOp eqT (mOp modT (mOp idxT (mVar 3) (mC (.int 18))) (mC (.int 3))) (mC (.int 0))) (aNil)))))))) (gNm 7) (Q.law_a_log_L1)) (sFrz 5 (sCons (sSetF 9 (mLstF (aNil))) (sCons (sFor (iRng1 (mVar 4)) (gNm 10) (Q.law_a_log_L2)) (sRetV 9)))))))))
def Q.things_in_L1 : SM := sDPut 1 (mVar 4) (mC (.bool true))
def Q.things_in_L2 : SM := sFor (iSeq (mVar 2)) (gNm 4) (Q.things_in_L1)
def Q.things_in : List T → Option T := runFn 5 (sCons (sSetF 1 (mDNew)) (sCons (sFor (iSeq (mVar 0)) (gTp (gCn (gNm 2) (gCn (gNm 3) (gNl)))) (Q.things_in_L2)) (sRet (mCall sortedDT (aCons (mVar 1) (aNil))))))
def Q.log_ways_L1 : SM := sCons (sAppendF (pVar 2) (mRepF (mLst (aCons (mC (.bool false)) (aNil))) (mCall lenT (aCons (mVar 1) (aNil))))) (sAppendF (pVar 3) (mRepF (mLst (aCons (mC (.bool false)) (aNil))) (mCall lenT (aCons (mVar 1) (aNil)))))
def Q.log_ways_L2 : SM := sIf (bOp neT (mVar 4) (mVar 7)) (sCons (sSetIx (pIx (pVar 2) (mOp idxOfT (mVar 1) (mVar 4))) (mOp idxOfT (mVar 1) (mVar 7)) (mC (.bool true))) (sIf (bOp notInT (mVar 7) (mVar 6)) (sSetIx (pIx (pVar 3) (mOp idxOfT (mVar 1) (mVar 4))) (mOp idxOfT (mVar 1) (mVar 7)) (mC (.bool true))) (sNil))) (sNil)
def Q.log_ways_L3 : SM := sFor (iSeq (mVar 5)) (gNm 7) (Q.log_ways_L2)
def Q.log_ways_L4 : SM := sFor (iSeq (mVar 6)) (gNm 4) (Q.log_ways_L3)
def Q.log_ways : List T → Option T := runFn 8 (sCons (sSetF 2 (mLstF (aNil))) (sCons (sSetF 3 (mLstF (aNil))) (sCons (sFor (iSeq (mVar 1)) (gNm 4) (Q.log_ways_L1)) (sCons (sFor (iSeq (mVar 0)) (gTp (gCn (gNm 5) (gCn (gNm 6) (gNl)))) (Q.log_ways_L4)) (sFrz 3 (sFrz 2 (sFrz 3 (sFrz 2 (sRet (mTup (aCons (mVar 2) (aCons (mVar 3) (aNil)))))))))))))
def Q.way_between_L1 : SM := sIf (bAnd (bVal (mOp idxT (mOp idxT (mVar 0) (mVar 5)) (mVar 6))) (bOp dNotInT (mVar 6) (mVar 3))) (sCons (sDPut 3 (mVar 6) (mVar 5)) (sAppend (pVar 4) (mVar 6))) (sNil)
def Q.way_between_L2 : SM := sCons (sSetPopAt 5 (pVar 4) (mC (.int 0))) (sFor (iRng1 (mCall lenT (aCons (mVar 0) (aNil)))) (gNm 6) (Q.way_between_L1))
def Q.way_between_L3 : SM := sInsert (pVar 7) (mC (.int 0)) (mOp dGetT (mVar 3) (mOp idxT (mVar 7) (mC (.int 0))))
def Q.way_between : List T → Option T := runFn 8 (sCons (sSetF 3 (mDOne (mVar 1) (mC .none))) (sCons (sSetF 4 (mLstF (aCons (mPure (mVar 1)) (aNil)))) (sCons (sWhile FUEL (bAnd (bOp neT (mVar 4) (mLst (aNil))) (bOp dNotInT (mVar 2) (mVar 3))) (Q.way_between_L2)) (sCons (sIf (bOp dNotInT (mVar 2) (mVar 3)) (sRet (mC .none)) (sNil)) (sCons (sSetF 7 (mLstF (aCons (mPure (mVar 2)) (aNil)))) (sCons (sWhile FUEL (bOp neT (mOp idxT (mVar 7) (mC (.int 0))) (mVar 1)) (Q.way_between_L3)) (sRetV 7)))))))
def Q.reached_from_L1 : SM := sIf (bAnd (bVal (mOp idxT (mOp idxT (mVar 0) (mVar 4)) (mVar 5))) (bOp dNotInT (mVar 5) (mVar 2))) (sCons (sDPut 2 (mVar 5) (mC (.bool true))) (sAppend (pVar 3) (mVar 5))) (sNil)
def Q.reached_from_L2 : SM := sCons (sSetPop 4 (pVar 3)) (sFor (iRng1 (mCall lenT (aCons (mVar 0) (aNil)))) (gNm 5) (Q.reached_from_L1))
def Q.reached_from : List T → Option T := runFn 6 (sCons (sSetF 2 (mDOne (mVar 1) (mC (.bool true)))) (sCons (sSetF 3 (mLstF (aCons (mPure (mVar 1)) (aNil)))) (sCons (sWhile FUEL (bOp neT (mVar 3) (mLst (aNil))) (Q.reached_from_L2)) (sRetV 2))))
def Q.told_by_log_L1 : SM := sIf (bVal (mOp idxT (mOp idxT (mVar 3) (mVar 5)) (mVar 6))) (sCons (sSet 7 (mCall (callT Q.way_between) (aCons (mVar 2) (aCons (mVar 6) (aCons (mVar 5) (aNil)))))) (sIf (bOp notnT (mVar 7) (mC .none)) (sRet (mTup (aCons (mC (.str "round")) (aCons (mLc (iSeqB (mVar 7)) [12] (gNm 12) (bYes) (mOp idxT (mVar 1) (mVar 12))) (aNil))))) (sNil))) (sNil)
def Q.told_by_log_L2 : SM := sFor (iRng1 (mVar 4)) (gNm 6) (Q.told_by_log_L1)
def Q.told_by_log_L3 : SM := sCons (sSet 11 (mLc (iSeqB (mVar 9)) [12] (gNm 12) (bVal (mCall allT (aCons (mLc (iSeqB (mVar 9)) [13] (gNm 13) (bYes) (mOr (mOp dNotInT (mVar 12) (mOp idxT (mVar 8) (mVar 13))) (mOp dInT (mVar 13) (mOp idxT (mVar 8) (mVar 12))))) (aNil)))) (mVar 12))) (sCons (sAppend (pVar 10) (mLc (iSeqB (mVar 11)) [12] (gNm 12) (bYes) (mOp idxT (mVar 1) (mVar 12)))) (sSet 9 (mLc (iSeqB (mVar 9)) [12] (gNm 12) (bOp notInT (mVar 12) (mVar 11)) (mVar 12))))
def Q.told_by_log : List T → Option T := runFn 14 (sCons (sSet 1 (mCall (callT Q.things_in) (aCons (mVar 0) (aNil)))) (sCons (sAsg (gTp (gCn (gNm 2) (gCn (gNm 3) (gNl)))) (mCall (callT Q.log_ways) (aCons (mVar 0) (aCons (mVar 1) (aNil))))) (sCons (sSet 4 (mCall lenT (aCons (mVar 1) (aNil)))) (sCons (sFor (iRng1 (mVar 4)) (gNm 5) (Q.told_by_log_L2)) (sCons (sSet 8 (mLc (iRng1 (mVar 4)) [5] (gNm 5) (bYes) (mCall (callT Q.reached_from) (aCons (mVar 2) (aCons (mVar 5) (aNil)))))) (sCons (sSet 9 (mListR1 (mVar 4))) (sCons (sSetF 10 (mLstF (aNil))) (sCons (sWhile FUEL (bOp neT (mVar 9) (mLst (aNil))) (Q.told_by_log_L3)) (sFrz 10 (sRet (mTup (aCons (mC (.str "levels")) (aCons (mVar 10) (aNil))))))))))))))
def Q.law_offered_L1 : SM := sSet 1 (mOp addT (mVar 1) (mLc (iSeqB (mVar 2)) [4] (gNm 4) (bOp notInT (mVar 4) (mVar 1)) (mVar 4)))
def Q.law_offered : List T → Option T := runFn 5 (sCons (sSet 1 (mLst (aNil))) (sCons (sFor (iSeq (mVar 0)) (gTp (gCn (gNm 2) (gCn (gNm 3) (gNl)))) (Q.law_offered_L1)) (sRet (mCall sortedT (aCons (mVar 1) (aNil))))))
def Q.law_levels_spoilt : List T → Option T := runFn 10 (sFrz 0 (sCons (sSetF 0 (mLcT (iSeqB (mVar 0)) [9] (gNm 9) (bYes) (mListF (mVar 9)))) (sCons (sSet 2 (mOp modT (mOp idxT (mVar 1) (mC (.int 0))) (mCall lenT (aCons (mVar 0) (aNil))))) (sCons (sSet 3 (mOp modT (mOp idxT (mVar 1) (mC (.int 1))) (mCall lenT (aCons (mOp idxT (mVar 0) (mVar 2)) (aNil))))) (sCons (sSet 4 (mOp modT (mOp idxT (mVar 1) (mC (.int 2))) (mC (.int 11)))) (sCons (sIf (bOp ltT (mVar 4) (mC (.int 2))) (sCons (sSetPopAt 5 (pIx (pVar 0) (mVar 2)) (mVar 3)) (sCons (sIf (bOp eqT (mVar 4) (mC (.int 0))) (sCons (sSet 6 (mOp modT (mOp idxT (mVar 1) (mC (.int 3))) (mCall lenT (aCons (mVar 0) (aNil))))) (sSetIx (pVar 0) (mVar 6) (mCall sortedT (aCons (mOp addT (mOp idxT (mVar 0) (mVar 6)) (mLst (aCons (mVar 5) (aNil)))) (aNil))))) (sNil)) (sFrz 0 (sSet 0 (mLc (iSeqB (mVar 0)) [9] (gNm 9) (bOp neT (mVar 9) (mLst (aNil))) (mVar 9)))))) (sNil)) (sCons (sIf (bOp eqT (mVar 4) (mC (.int 2))) (sSetIx (pVar 0) (mVar 2) (mCall sortedT (aCons (mOp addT (mOp idxT (mVar 0) (mVar 2)) (mLst (aCons (mOp idxT (mOp idxT (mVar 0) (mOp modT (mOp idxT (mVar 1) (mC (.int 3))) (mCall lenT (aCons (mVar 0) (aNil))))) (mC (.int 0))) (aNil)))) (aNil)))) (sNil)) (sCons (sIf (bOp eqT (mVar 4) (mC (.int 3))) (sSetIx (pVar 0) (mVar 2) (mCall sortedT (aCons (mOp addT (mOp idxT (mVar 0) (mVar 2)) (mLst (aCons (mOp modT (mOp idxT (mVar 1) (mC (.int 4))) (mC (.int 100))) (aNil)))) (aNil)))) (sNil)) (sCons (sIf (bOp eqT (mVar 4) (mC (.int 4))) (sCons (sSet 7 (mLc (iSeqB (mTup (aCons (mSlice (mOp idxT (mVar 0) (mVar 2)) (oNone) (oSome (mVar 3))) (aCons (mSlice (mOp idxT (mVar 0) (mVar 2)) (oSome (mVar 3)) (oNone)) (aNil))))) [9] (gNm 9) (bOp neT (mVar 9) (mLst (aNil))) (mVar 9))) (sFrz 0 (sSet 0 (mOp addT (mOp addT (mSlice (mVar 0) (oNone) (oSome (mVar 2))) (mVar 7)) (mSlice (mVar 0) (oSome (mOp addT (mVar 2) (mC (.int 1)))) (oNone)))))) (sNil)) (sCons (sIf (bAnd (bOp eqT (mVar 4) (mC (.int 5))) (bOp eqT (mVar 2) (mC (.int 0)))) (sFrz 0 (sSet 0 (mRevT (mVar 0)))) (sIf (bOp eqT (mVar 4) (mC (.int 5))) (sCons (sSet 8 (mCall sortedT (aCons (mOp addT (mOp idxT (mVar 0) (mOp subT (mVar 2) (mC (.int 1)))) (mOp idxT (mVar 0) (mVar 2))) (aNil)))) (sFrz 0 (sSet 0 (mOp addT (mOp addT (mSlice (mVar 0) (oNone) (oSome (mOp subT (mVar 2) (mC (.int 1))))) (mLst (aCons (mVar 8) (aNil)))) (mSlice (mVar 0) (oSome (mOp addT (mVar 2) (mC (.int 1)))) (oNone)))))) (sNil))) (sCons (sIf (bOp eqT (mVar 4) (mC (.int 6))) (sInsert (pVar 0) (mVar 2) (mLst (aNil))) (sNil)) (sCons (sIf (bOp eqT (mVar 4) (mC (.int 7))) (sSetIx (pVar 0) (mVar 2) (mRevT (mOp idxT (mVar 0) (mVar 2)))) (sNil)) (sRetV 0)))))))))))))
def Q.law_round_spoilt_3 : List T → Option T := runFn 4 (sCons (sSetF 0 (mListF (mVar 0))) (sCons (sSet 2 (mOp modT (mOp idxT (mVar 1) (mC (.int 1))) (mCall lenT (aCons (mVar 0) (aNil))))) (sCons (sSet 3 (mOp modT (mOp idxT (mVar 1) (mC (.int 2))) (mC (.int 7)))) (sCons (sIf (bOp eqT (mVar 3) (mC (.int 0))) (sSetIx (pVar 0) (mVar 2) (mOp modT (mOp idxT (mVar 1) (mC (.int 3))) (mC (.int 100)))) (sNil)) (sCons (sIf (bOp eqT (mVar 3) (mC (.int 1))) (sPopAt (pVar 0) (mVar 2)) (sNil)) (sCons (sIf (bOp eqT (mVar 3) (mC (.int 2))) (sInsert (pVar 0) (mVar 2) (mOp idxT (mVar 0) (mOp modT (mOp idxT (mVar 1) (mC (.int 3))) (mCall lenT (aCons (mVar 0) (aNil)))))) (sNil)) (sFrz 0 (sCons (sIf (bOp eqT (mVar 3) (mC (.int 3))) (sSet 0 (mRevT (mVar 0))) (sNil)) (sCons (sIf (bOp eqT (mVar 3) (mC (.int 4))) (sSet 0 (mOp addT (mSlice (mVar 0) (oSome (mVar 2)) (oNone)) (mSlice (mVar 0) (oNone) (oSome (mVar 2))))) (sNil)) (sRetV 0))))))))))
def Q.explains_log_L1 : SM := sCons (sIf (bOr (bOp eqT (mVar 3) (mLst (aNil))) (bOp neT (mVar 3) (mCall sortSetT (aCons (mVar 3) (aNil))))) (sRet (mC (.bool false))) (sNil)) (sSet 2 (mOp addT (mVar 2) (mVar 3)))
def Q.explains_log_L2 : SM := sCons (sSet 6 (mOp idxT (mLc (iSeqB (mVar 1)) [3] (gNm 3) (bOp neT (mLc (iSeqB (mVar 3)) [7] (gNm 7) (bOp inT (mVar 7) (mVar 4)) (mVar 7)) (mLst (aNil))) (mVar 3)) (mC (.int 0)))) (sIf (bOp neT (mCall sortAnyT (aCons (mVar 5) (aNil))) (mLc (iSeqB (mVar 6)) [7] (gNm 7) (bOp inT (mVar 7) (mVar 4)) (mVar 7))) (sRet (mC (.bool false))) (sNil))
def Q.explains_log : List T → Option T := runFn 8 (sCons (sSet 2 (mLst (aNil))) (sCons (sFor (iSeq (mVar 1)) (gNm 3) (Q.explains_log_L1)) (sCons (sIf (bOp neT (mCall sortAnyT (aCons (mVar 2) (aNil))) (mCall (callT Q.things_in) (aCons (mVar 0) (aNil)))) (sRet (mC (.bool false))) (sNil)) (sCons (sFor (iSeq (mVar 0)) (gTp (gCn (gNm 4) (gCn (gNm 5) (gNl)))) (Q.explains_log_L2)) (sRet (mC (.bool true)))))))
def Q.law_explains_2_L1 : SM := sCons (sIf (bOr (bOp eqT (mVar 3) (mLst (aNil))) (bOr (bOp neT (mVar 3) (mCall sortAnyT (aCons (mVar 3) (aNil)))) (bOp neT (mCall lenSetT (aCons (mVar 3) (aNil))) (mCall lenT (aCons (mVar 3) (aNil)))))) (sRet (mC (.bool false))) (sNil)) (sSet 2 (mOp addT (mVar 2) (mCall listT (aCons (mVar 3) (aNil)))))
def Q.law_explains_2_L2 : SM := sAppend (pVar 6) (mOp idxT (mLc (iRng1 (mCall lenT (aCons (mVar 1) (aNil)))) [10] (gNm 10) (bOp inT (mVar 7) (mOp idxT (mVar 1) (mVar 10))) (mVar 10)) (mC (.int 0)))
def Q.law_explains_2_L3 : SM := sCons (sSetF 6 (mLstF (aNil))) (sCons (sFor (iSeq (mVar 4)) (gNm 7) (Q.law_explains_2_L2)) (sFrz 6 (sCons (sSet 8 (mCall minT (aCons (mVar 6) (aNil)))) (sCons (sSet 9 (mLc (iZpM (mVar 4) (mVar 6)) [7, 11] (gTp (gCn (gNm 7) (gCn (gNm 11) (gNl)))) (bOp eqT (mVar 11) (mVar 8)) (mVar 7))) (sIf (bOp neT (mCall sortAnyT (aCons (mVar 9) (aNil))) (mCall sortAnyT (aCons (mVar 5) (aNil)))) (sRet (mC (.bool false))) (sNil))))))
def Q.law_explains_2 : List T → Option T := runFn 12 (sCons (sSet 2 (mLst (aNil))) (sCons (sFor (iSeq (mVar 1)) (gNm 3) (Q.law_explains_2_L1)) (sCons (sIf (bOp neT (mCall sortAnyT (aCons (mVar 2) (aNil))) (mCall (callT Q.law_offered) (aCons (mVar 0) (aNil)))) (sRet (mC (.bool false))) (sNil)) (sCons (sFor (iSeq (mVar 0)) (gTp (gCn (gNm 4) (gCn (gNm 5) (gNl)))) (Q.law_explains_2_L3)) (sRet (mC (.bool true)))))))
def Q.steps_of : List T → Option T := runFn 2 (sRet (mLc (iRng1 (mCall lenT (aCons (mVar 0) (aNil)))) [1] (gNm 1) (bYes) (mTup (aCons (mOp idxT (mVar 0) (mVar 1)) (aCons (mOp idxT (mVar 0) (mOp modT (mOp addT (mVar 1) (mC (.int 1))) (mCall lenT (aCons (mVar 0) (aNil))))) (aNil))))))
def Q.bars_log : List T → Option T := runFn 8 (sCons (sSet 2 (mCall (callT Q.things_in) (aCons (mVar 0) (aNil)))) (sCons (sIf (bOr (bOp ltT (mCall lenT (aCons (mVar 1) (aNil))) (mC (.int 2))) (bOr (bOp neT (mCall lenSetT (aCons (mVar 1) (aNil))) (mCall lenT (aCons (mVar 1) (aNil)))) (bNot (bVal (mCall allT (aCons (mLc (iSeqB (mVar 1)) [6] (gNm 6) (bYes) (mOp inT (mVar 6) (mVar 2))) (aNil))))))) (sRet (mC (.bool false))) (sNil)) (sCons (sAsg (gTp (gCn (gNm 3) (gCn (gNm 4) (gNl)))) (mCall (callT Q.log_ways) (aCons (mVar 0) (aCons (mVar 2) (aNil))))) (sCons (sSet 5 (mLc (iSeqB (mCall (callT Q.steps_of) (aCons (mVar 1) (aNil)))) [6, 7] (gTp (gCn (gNm 6) (gCn (gNm 7) (gNl)))) (bYes) (mTup (aCons (mOp idxOfT (mVar 2) (mVar 6)) (aCons (mOp idxOfT (mVar 2) (mVar 7)) (aNil)))))) (sRet (mAnd (mCall allT (aCons (mLc (iSeqB (mVar 5)) [6, 7] (gTp (gCn (gNm 6) (gCn (gNm 7) (gNl)))) (bYes) (mOp idxT (mOp idxT (mVar 3) (mVar 6)) (mVar 7))) (aNil))) (mCall anyT (aCons (mLc (iSeqB (mVar 5)) [6, 7] (gTp (gCn (gNm 6) (gCn (gNm 7) (gNl)))) (bYes) (mOp idxT (mOp idxT (mVar 4) (mVar 6)) (mVar 7))) (aNil)))))))))
def Q.law_bars_2_L1 : SM := sCons (sSet 5 (mOp idxT (mVar 1) (mOp subT (mVar 4) (mC (.int 1))))) (sCons (sSet 6 (mOp idxT (mVar 1) (mVar 4))) (sCons (sSet 7 (mLc (iSeqB (mVar 0)) [8, 9] (gTp (gCn (gNm 8) (gCn (gNm 9) (gNl)))) (bAnd (bOp inT (mVar 5) (mVar 9)) (bOp inT (mVar 6) (mVar 8))) (mVar 9))) (sCons (sIf (bOp eqT (mVar 7) (mLst (aNil))) (sRet (mC (.bool false))) (sNil)) (sSet 3 (mOr (mVar 3) (mOp neT (mLc (iSeqB (mVar 7)) [9] (gNm 9) (bOp notInT (mVar 6) (mVar 9)) (mVar 9)) (mLst (aNil))))))))
def Q.law_bars_2 : List T → Option T := runFn 10 (sCons (sSet 2 (mCall (callT Q.law_offered) (aCons (mVar 0) (aNil)))) (sCons (sIf (bOr (bOp ltT (mCall lenT (aCons (mVar 1) (aNil))) (mC (.int 2))) (bOp neT (mCall lenSetT (aCons (mVar 1) (aNil))) (mCall lenT (aCons (mVar 1) (aNil))))) (sRet (mC (.bool false))) (sNil)) (sCons (sIf (bOp neT (mLc (iSeqB (mVar 1)) [5] (gNm 5) (bOp notInT (mVar 5) (mVar 2)) (mVar 5)) (mLst (aNil))) (sRet (mC (.bool false))) (sNil)) (sCons (sSet 3 (mC (.bool false))) (sCons (sFor (iRng1 (mCall lenT (aCons (mVar 1) (aNil)))) (gNm 4) (Q.law_bars_2_L1)) (sRetV 3))))))
def Q.k25_law_L1 : SM := sCons (sSet 5 (mCall (callT Q.law_draws) (aCons (mVar 4) (aCons (mC (.int 6)) (aCons (mC (.int 1000)) (aNil)))))) (sCons (sSet 6 (mLc (iEn (mOp mulT (mVar 5) (mC (.int 10)))) [11, 12] (gTp (gCn (gNm 11) (gCn (gNm 12) (gNl)))) (bYes) (mOp addT (mVar 12) (mVar 11)))) (sCons (sSet 7 (mLc (iSeqB (mCall (callT Q.law_mixed) (aCons (mCall (callT Q.law_offered) (aCons (mVar 1) (aNil))) (aCons (mVar 6) (aNil))))) [13] (gNm 13) (bYes) (mLst (aCons (mVar 13) (aNil))))) (sCons (sSet 8 (mSlice (mCall (callT Q.law_offered) (aCons (mVar 1) (aNil))) (oNone) (oSome (mOp addT (mC (.int 2)) (mOp modT (mOp idxT (mVar 5) (mC (.int 5))) (mC (.int 4))))))) (sCons (sIf (bOp eqT (mVar 2) (mC (.str "levels"))) (sSet 7 (mVar 3)) (sSet 8 (mVar 3))) (sCons (sSet 7 (mCall (callT Q.law_levels_spoilt) (aCons (mVar 7) (aCons (mVar 5) (aNil))))) (sCons (sSet 8 (mCall (callT Q.law_round_spoilt_3) (aCons (mVar 8) (aCons (mVar 5) (aNil))))) (sCons (sSet 9 (mLst (aCons (mLc (iSeqB (mVar 7)) [14] (gNm 14) (bYes) (mCall listT (aCons (mVar 14) (aNil)))) (aCons (mCall listT (aCons (mVar 8) (aNil))) (aNil))))) (sCons (sSet 10 (mCall (callT Q.explains_log) (aCons (mCall listT (aCons (mVar 1) (aNil))) (aCons (mOp idxT (mVar 9) (mC (.int 0))) (aNil))))) (sCons (sIf (bOr (bNot (bVal (mIsi "bool" (mVar 10)))) (bOp neT (mVar 10) (mCall (callT Q.law_explains_2) (aCons (mVar 1) (aCons (mVar 7) (aNil)))))) (sRet (mC (.bool false))) (sNil)) (sCons (sSet 10 (mCall (callT Q.bars_log) (aCons (mCall listT (aCons (mVar 1) (aNil))) (aCons (mOp idxT (mVar 9) (mC (.int 1))) (aNil))))) (sCons (sIf (bOr (bNot (bVal (mIsi "bool" (mVar 10)))) (bOp neT (mVar 10) (mCall (callT Q.law_bars_2) (aCons (mVar 1) (aCons (mVar 8) (aNil)))))) (sRet (mC (.bool false))) (sNil)) (sIf (bOp neT (mVar 9) (mLst (aCons (mVar 7) (aCons (mVar 8) (aNil))))) (sRet (mC (.bool false))) (sNil)))))))))))))
def Q.k25_law : List T → Option T := runFn 15 (sCons (sSet 1 (mCall (callT Q.law_a_log) (aCons (mVar 0) (aCons (mC (.int 0)) (aCons (mC (.int 10)) (aNil)))))) (sCons (sAsg (gTp (gCn (gNm 2) (gCn (gNm 3) (gNl)))) (mCall (callT Q.told_by_log) (aCons (mVar 1) (aNil)))) (sCons (sFor (iSeq (mOp addT (mLst (aCons (mCall (callT Q.law_cell_at) (aCons (mVar 0) (aCons (mC (.int 2)) (aNil)))) (aNil))) (mSlice (mVar 0) (oSome (mC (.int 3))) (oSome (mC (.int 14)))))) (gNm 4) (Q.k25_law_L1)) (sRet (mC (.bool true))))))
def Q.divisor_L1 : SM := sPar 0 1 (aCons (mVar 1) (aCons (mOp modT (mVar 0) (mVar 1)) (aNil)))
def Q.divisor : List T → Option T := runFn 2 (sCons (sSet 0 (mCall absT (aCons (mVar 0) (aNil)))) (sCons (sSet 1 (mCall absT (aCons (mVar 1) (aNil)))) (sCons (sWhile FUEL (bOp gtT (mVar 1) (mC (.int 0))) (Q.divisor_L1)) (sRetV 0))))
def Q.fraction : List T → Option T := runFn 3 (sCons (sSet 2 (mCall (callT Q.divisor) (aCons (mVar 0) (aCons (mVar 1) (aNil))))) (sCons (sIf (bOp ltT (mVar 1) (mC (.int 0))) (sSet 2 (mOp subT (mC (.int 0)) (mVar 2))) (sNil)) (sRet (mTup (aCons (mOp fdivT (mVar 0) (mVar 2)) (aCons (mOp fdivT (mVar 1) (mVar 2)) (aNil)))))))
def Q.plus : List T → Option T := runFn 2 (sRet (mCall (callT Q.fraction) (aCons (mOp addT (mOp mulT (mOp idxT (mVar 0) (mC (.int 0))) (mOp idxT (mVar 1) (mC (.int 1)))) (mOp mulT (mOp idxT (mVar 1) (mC (.int 0))) (mOp idxT (mVar 0) (mC (.int 1))))) (aCons (mOp mulT (mOp idxT (mVar 0) (mC (.int 1))) (mOp idxT (mVar 1) (mC (.int 1)))) (aNil)))))
def Q.minus : List T → Option T := runFn 2 (sRet (mCall (callT Q.fraction) (aCons (mOp subT (mOp mulT (mOp idxT (mVar 0) (mC (.int 0))) (mOp idxT (mVar 1) (mC (.int 1)))) (mOp mulT (mOp idxT (mVar 1) (mC (.int 0))) (mOp idxT (mVar 0) (mC (.int 1))))) (aCons (mOp mulT (mOp idxT (mVar 0) (mC (.int 1))) (mOp idxT (mVar 1) (mC (.int 1)))) (aNil)))))
def Q.times : List T → Option T := runFn 2 (sRet (mCall (callT Q.fraction) (aCons (mOp mulT (mOp idxT (mVar 0) (mC (.int 0))) (mVar 1)) (aCons (mOp idxT (mVar 0) (mC (.int 1))) (aNil)))))
def Q.over : List T → Option T := runFn 2 (sRet (mCall (callT Q.fraction) (aCons (mOp idxT (mVar 0) (mC (.int 0))) (aCons (mOp mulT (mOp idxT (mVar 0) (mC (.int 1))) (mVar 1)) (aNil)))))
def Q.is_less : List T → Option T := runFn 2 (sRet (mOp ltT (mOp mulT (mOp idxT (mVar 0) (mC (.int 0))) (mOp idxT (mVar 1) (mC (.int 1)))) (mOp mulT (mOp idxT (mVar 1) (mC (.int 0))) (mOp idxT (mVar 0) (mC (.int 1))))))
def Q.greater : List T → Option T := runFn 2 (sCons (sIf (bVal (mCall (callT Q.is_less) (aCons (mVar 0) (aCons (mVar 1) (aNil))))) (sRetV 1) (sNil)) (sRetV 0))
def Q.cost_at : List T → Option T := runFn 4 (sRet (mCall sumT (aCons (mLc (iZp (mVar 0) (mVar 1)) [2, 3] (gTp (gCn (gNm 2) (gCn (gNm 3) (gNl)))) (bYes) (mOp mulT (mVar 2) (mVar 3))) (aNil))))
def Q.costs_of_L1 : SM := sAppend (pVar 1) (mLc (iSeqB (mVar 0)) [4, 5] (gTp (gCn (gNm 4) (gCn (gNm 5) (gNl)))) (bYes) (mCall (callT Q.cost_at) (aCons (mVar 2) (aCons (mVar 5) (aNil)))))
def Q.costs_of : List T → Option T := runFn 6 (sCons (sSetF 1 (mLstF (aNil))) (sCons (sFor (iSeq (mVar 0)) (gTp (gCn (gNm 2) (gCn (gNm 3) (gNl)))) (Q.costs_of_L1)) (sRetV 1)))
def Q.walks_L1 : SM := sIf (bAnd (bOp neT (mVar 7) (mVar 5)) (bOp notnT (mOp idxT (mOp idxT (mVar 2) (mNeg (mC (.int 1)))) (mVar 7)) (mC .none))) (sAppend (pVar 6) (mOp subT (mOp addT (mOp idxT (mOp idxT (mVar 2) (mNeg (mC (.int 1)))) (mVar 7)) (mOp idxT (mOp idxT (mVar 0) (mVar 7)) (mVar 5))) (mOp idxT (mOp idxT (mVar 0) (mVar 7)) (mVar 7)))) (sNil)
def Q.walks_L2 : SM := sCons (sSetF 6 (mLstF (aNil))) (sCons (sFor (iRng1 (mVar 1)) (gNm 7) (Q.walks_L1)) (sFrz 6 (sAppend (pVar 4) (mIf (bOp neT (mVar 6) (mLst (aNil))) (mCall minT (aCons (mVar 6) (aNil))) (mC .none)))))
def Q.walks_L3 : SM := sCons (sSetF 4 (mLstF (aNil))) (sCons (sFor (iRng1 (mVar 1)) (gNm 5) (Q.walks_L2)) (sFrz 4 (sAppend (pVar 2) (mVar 4))))
def Q.walks : List T → Option T := runFn 8 (sCons (sSet 1 (mCall lenT (aCons (mVar 0) (aNil)))) (sCons (sSetF 2 (mLstF (aCons (mPure (mOp addT (mLst (aCons (mC (.int 0)) (aNil))) (mOp mulT (mLst (aCons (mC .none) (aNil))) (mOp subT (mVar 1) (mC (.int 1)))))) (aNil)))) (sCons (sFor (iRng1 (mVar 1)) (gNm 3) (Q.walks_L3)) (sRetV 2))))
def Q.least_mean_L1 : SM := sIf (bOp notnT (mOp idxT (mOp idxT (mVar 2) (mVar 6)) (mVar 4)) (mC .none)) (sCons (sSet 7 (mCall (callT Q.fraction) (aCons (mOp subT (mOp idxT (mOp idxT (mVar 2) (mVar 1)) (mVar 4)) (mOp idxT (mOp idxT (mVar 2) (mVar 6)) (mVar 4))) (aCons (mOp subT (mVar 1) (mVar 6)) (aNil))))) (sIf (bOr (bOp isnT (mVar 5) (mC .none)) (bVal (mCall (callT Q.is_less) (aCons (mVar 5) (aCons (mVar 7) (aNil)))))) (sSet 5 (mVar 7)) (sNil))) (sNil)
def Q.least_mean_L2 : SM := sIf (bOp notnT (mOp idxT (mOp idxT (mVar 2) (mVar 1)) (mVar 4)) (mC .none)) (sCons (sSet 5 (mC .none)) (sCons (sFor (iRng1 (mVar 1)) (gNm 6) (Q.least_mean_L1)) (sIf (bOr (bOp isnT (mVar 3) (mC .none)) (bVal (mCall (callT Q.is_less) (aCons (mVar 5) (aCons (mVar 3) (aNil)))))) (sSet 3 (mVar 5)) (sNil)))) (sNil)
def Q.least_mean : List T → Option T := runFn 8 (sCons (sSet 1 (mCall lenT (aCons (mVar 0) (aNil)))) (sCons (sSet 2 (mCall (callT Q.walks) (aCons (mVar 0) (aNil)))) (sCons (sSet 3 (mC .none)) (sCons (sFor (iRng1 (mVar 1)) (gNm 4) (Q.least_mean_L2)) (sRetV 3)))))
def Q.lifted_L1 : SM := sCons (sSet 7 (mCall (callT Q.minus) (aCons (mCall (callT Q.plus) (aCons (mOp idxT (mVar 3) (mVar 5)) (aCons (mTup (aCons (mOp subT (mOp idxT (mOp idxT (mVar 0) (mVar 5)) (mVar 6)) (mOp idxT (mOp idxT (mVar 0) (mVar 5)) (mVar 5))) (aCons (mC (.int 1)) (aNil)))) (aNil)))) (aCons (mVar 1) (aNil))))) (sIf (bAnd (bOp neT (mVar 5) (mVar 6)) (bVal (mCall (callT Q.is_less) (aCons (mVar 7) (aCons (mOp idxT (mVar 3) (mVar 6)) (aNil)))))) (sSetIx (pVar 3) (mVar 6) (mVar 7)) (sNil))
def Q.lifted_L2 : SM := sFor (iRng1 (mVar 2)) (gNm 6) (Q.lifted_L1)
def Q.lifted_L3 : SM := sFor (iRng1 (mVar 2)) (gNm 5) (Q.lifted_L2)
def Q.lifted : List T → Option T := runFn 8 (sCons (sSet 2 (mCall lenT (aCons (mVar 0) (aNil)))) (sCons (sSetF 3 (mRepF (mLst (aCons (mTup (aCons (mC (.int 0)) (aCons (mC (.int 1)) (aNil)))) (aNil))) (mVar 2))) (sCons (sFor (iRng1 (mVar 2)) (gNm 4) (Q.lifted_L3)) (sRetV 3))))
def Q.dearest_L1 : SM := sCons (sSet 8 (mCall (callT Q.minus) (aCons (mCall (callT Q.plus) (aCons (mOp idxT (mVar 3) (mVar 5)) (aCons (mTup (aCons (mOp subT (mOp idxT (mOp idxT (mVar 1) (mVar 5)) (mVar 7)) (mOp idxT (mOp idxT (mVar 1) (mVar 5)) (mVar 5))) (aCons (mC (.int 1)) (aNil)))) (aNil)))) (aCons (mVar 2) (aNil))))) (sAppend (pVar 6) (mAnd (mOp neT (mVar 5) (mVar 7)) (mOp eqT (mVar 8) (mOp idxT (mVar 3) (mVar 7)))))
def Q.dearest_L2 : SM := sCons (sSetF 6 (mLstF (aNil))) (sCons (sFor (iRng1 (mCall lenT (aCons (mVar 0) (aNil)))) (gNm 7) (Q.dearest_L1)) (sFrz 6 (sAppend (pVar 4) (mVar 6))))
def Q.dearest_L3 : SM := sIf (bVal (mOp idxT (mOp idxT (mVar 4) (mVar 5)) (mVar 7))) (sCons (sSet 9 (mCall (callT Q.way_between) (aCons (mVar 4) (aCons (mVar 7) (aCons (mVar 5) (aNil)))))) (sIf (bOp notnT (mVar 9) (mC .none)) (sRet (mTup (aCons (mCall (callT Q.over) (aCons (mVar 2) (aCons (mOp subT (mC (.int 0)) (mC (.int 1))) (aNil)))) (aCons (mVar 9) (aCons (mVar 3) (aNil)))))) (sNil))) (sNil)
def Q.dearest_L4 : SM := sFor (iRng1 (mCall lenT (aCons (mVar 0) (aNil)))) (gNm 7) (Q.dearest_L3)
def Q.dearest : List T → Option T := runFn 10 (sCons (sIf (bOp ltT (mCall lenT (aCons (mVar 0) (aNil))) (mC (.int 2))) (sRet (mC .none)) (sNil)) (sCons (sSet 1 (mCall (callT Q.costs_of) (aCons (mVar 0) (aNil)))) (sCons (sSet 2 (mCall (callT Q.least_mean) (aCons (mVar 1) (aNil)))) (sCons (sSet 3 (mCall (callT Q.lifted) (aCons (mVar 1) (aCons (mVar 2) (aNil))))) (sCons (sSetF 4 (mLstF (aNil))) (sCons (sFor (iRng1 (mCall lenT (aCons (mVar 0) (aNil)))) (gNm 5) (Q.dearest_L2)) (sFrz 4 (sCons (sFor (iRng1 (mCall lenT (aCons (mVar 0) (aNil)))) (gNm 5) (Q.dearest_L4)) (sRet (mC .none))))))))))
def Q.need_number : List T → Option T := runFn 2 (sIf (bNot (bVal (mChain leT ltT (mC (.int 0)) (mVar 1) (mCall lenT (aCons (mVar 0) (aNil)))))) (sNever) (sNil))
def Q.cost : List T → Option T := runFn 3 (sCons (sExpr (mCall (callT Q.need_number) (aCons (mVar 0) (aCons (mVar 1) (aNil))))) (sCons (sExpr (mCall (callT Q.need_number) (aCons (mVar 0) (aCons (mVar 2) (aNil))))) (sRet (mCall (callT Q.cost_at) (aCons (mOp idxT (mOp idxT (mVar 0) (mVar 1)) (mC (.int 0))) (aCons (mOp idxT (mOp idxT (mVar 0) (mVar 2)) (mC (.int 1))) (aNil)))))))
def Q.without : List T → Option T := runFn 4 (sRet (mLc (iEn (mVar 0)) [2, 3] (gTp (gCn (gNm 2) (gCn (gNm 3) (gNl)))) (bOp notInT (mVar 2) (mVar 1)) (mVar 3)))
end
namespace N
open PySem PySem.Spec PyProof.Rows L2 M

def op2 (f : T → T → Option T) (a b : D) : Option D := (f (.p a) (.p b)).bind T.pure?
def xop (f : T → T → Option T) (p q : Option D) : Option D := p.bind fun a => q.bind fun b => op2 f a b
def xf1 (f : List T → Option T) (p : Option D) : Option D := p.bind fun a => (f [.p a]).bind T.pure?
def xf2 (f : List T → Option T) (p q : Option D) : Option D := p.bind fun a => q.bind fun b => (f [.p a, .p b]).bind T.pure?
def xseq : List (Option D) → Option (List D)
  | [] => some []
  | p :: r => p.bind fun a => (xseq r).map fun as => a :: as
def xtup (l : List (Option D)) : Option D := (xseq l).map PyData.tuple
def xlst (l : List (Option D)) : Option D := (xseq l).map PyData.list
def boolD? : D → Option Bool
  | .bool b => some b
  | _ => none
def intD? : D → Option Int
  | .int i => some i
  | _ => none
def seqD? : D → Option (List D)
  | .list ds => some ds
  | .tuple ds => some ds
  | _ => none
def xbool (p : Option D) : Option Bool := p.bind boolD?
def xif {R : Type} (c : Option Bool) (a b : Option R) : Option R := c.bind fun x => if x then a else b
def xand (a b : Option Bool) : Option Bool := xif a b (some false)
def xor' (a b : Option Bool) : Option Bool := xif a (some true) b
def xnot (a : Option Bool) : Option Bool := a.map fun x => !x
def xmand (p q : Option D) : Option D := xif (xbool p) q (some (.bool false))
def xmor (p q : Option D) : Option D := xif (xbool p) (some (.bool true)) q
def xmnot (p : Option D) : Option D := (xbool p).map fun c => .bool (!c)
def xchain (f g : T → T → Option T) (p q r : Option D) : Option D := p.bind fun x => q.bind fun y => xif (xbool (op2 f x y)) (r.bind fun u => op2 g y u) (some (.bool false))
def xneg (p : Option D) : Option D := p.bind fun d => (intD? d).map fun i => .int (-i)
def xint (p : Option D) : Option (Option Int) := p.bind fun d => (intD? d).map some
def xslice (p : Option D) (lo hi : Option (Option Int)) : Option D := p.bind fun d => lo.bind fun a => hi.bind fun b => (sliceT (.p d) a b).bind T.pure?
def xrev (p : Option D) : Option D := p.bind fun d => match d with
  | .list ds => some (.list ds.reverse)
  | .tuple ds => some (.tuple ds.reverse)
  | _ => none
def xlistR (p : Option D) : Option D := p.bind fun d => (intD? d).bind fun j => if j ≤ 1000000 ∧ -1000000 ≤ j then some (.list (rangeD 0 j)) else none
def xisi (n : String) (p : Option D) : Option D := p.map fun d => .bool (isi (tyN d) n)
def ap1 {α R : Type} (f : α → Option R) (p : Option α) : Option R := p.bind f
def ap2 {α β R : Type} (f : α → β → Option R) (p : Option α) (q : Option β) : Option R := p.bind fun a => q.bind fun b => f a b
def ap3 {α β γ R : Type} (f : α → β → γ → Option R) (p : Option α) (q : Option β) (r : Option γ) : Option R := p.bind fun a => q.bind fun b => r.bind fun c => f a b c
def ap4 {α β γ δ R : Type} (f : α → β → γ → δ → Option R) (p : Option α) (q : Option β) (r : Option γ) (s : Option δ) : Option R := p.bind fun a => q.bind fun b => r.bind fun c => s.bind fun d => f a b c d
def ap5 {α β γ δ ε R : Type} (f : α → β → γ → δ → ε → Option R) (p : Option α) (q : Option β) (r : Option γ) (s : Option δ) (t : Option ε) : Option R := p.bind fun a => q.bind fun b => r.bind fun c => s.bind fun d => t.bind fun e => f a b c d e
def ap6 {α β γ δ ε ζ R : Type} (f : α → β → γ → δ → ε → ζ → Option R) (p : Option α) (q : Option β) (r : Option γ) (s : Option δ) (t : Option ε) (u : Option ζ) : Option R := p.bind fun a => q.bind fun b => r.bind fun c => s.bind fun d => t.bind fun e => u.bind fun g => f a b c d e g
/-- an old mirror, as it is -/
def qc (fn : List T → Option T) (ts : List T) : Option D := (callT fn ts).bind T.pure?
def un2 {R : Type} (d : D) (k : D → D → Option R) : Option R := match d with
  | .tuple [a, b] => k a b
  | _ => none
def un3 {R : Type} (d : D) (k : D → D → D → Option R) : Option R := match d with
  | .tuple [a, b, c] => k a b c
  | _ => none
def un4 {R : Type} (d : D) (k : D → D → D → D → Option R) : Option R := match d with
  | .tuple [a, b, c, e] => k a b c e
  | _ => none
def iseq (p : Option D) : Option (List D) := p.bind seqD?
noncomputable def irng1 (p : Option D) : Option (List D) := p.bind fun d => (intD? d).bind fun j => if smallI j then some (rangeD 0 j) else none
noncomputable def irng2 (p q : Option D) : Option (List D) := p.bind fun d => (intD? d).bind fun i => q.bind fun e => (intD? e).bind fun j => if smallI i ∧ smallI j then some (rangeD i j) else none
def izip (p q : Option D) : Option (List D) := p.bind fun a => q.bind fun b => match a, b with
  | .list xs, .list ys => some (zipD xs ys)
  | .tuple xs, .tuple ys => some (zipD xs ys)
  | _, _ => none
def ienum (p : Option D) : Option (List D) := p.bind fun a => match a with
  | .list xs => some (enumD 0 xs)
  | _ => none
/-- a comprehension: none of an item, or what it gives -/
def lcP (h : D → Option (Option D)) : List D → Option (List D)
  | [] => some []
  | d :: r => (h d).bind fun y => (lcP h r).map fun ys => match y with
    | none => ys
    | some y => y :: ys
def mapP (h : D → Option D) : List D → Option (List D)
  | [] => some []
  | d :: r => (h d).bind fun y => (mapP h r).map fun ys => y :: ys
def xflt (c : Option Bool) (p : Option D) : Option (Option D) := xif c (p.map some) (some none)
def lim (p : Option (List D)) : Option (List D) := p.bind fun ds => if ds.length ≤ LIM then some ds else none
def xlc (h : D → Option (Option D)) (q : Option (List D)) : Option D := (lim (q.bind (lcP h))).map PyData.list
def xmap (h : D → Option D) (q : Option (List D)) : Option D := (lim (q.bind (mapP h))).map PyData.list

def own1 (xs : List D) : T := .ml (xs.map T.p)
def own2 (xs : List (List D)) : T := .ml (xs.map own1)
theorem snap_own1 (xs : List D) : (own1 xs).snap = some (.list xs) := by simp [own1, T.snap, snaps_p]
theorem snaps_own : ∀ xs : List (List D), snaps (xs.map own1) = some (xs.map PyData.list)
  | [] => by simp [snaps]
  | x :: r => by simp [snaps, snap_own1, snaps_own r]
theorem snap_own2 (xs : List (List D)) : (own2 xs).snap = some (.list (xs.map PyData.list)) := by simp [own2, T.snap, snaps_own]
inductive W1 : T → D → Prop
  | p (d : D) : W1 (.p d) d
  | o (xs : List D) : W1 (own1 xs) (.list xs)
theorem W1.snap {t : T} {d : D} (h : W1 t d) : t.snap = some d := by
  cases h with
  | p => simp
  | o xs => exact snap_own1 xs
theorem W1.any {t : T} {d : D} (h : W1 t d) {ds : List D} (e : (T.p d).any? = some ds) : t.any? = some ds := by
  cases h with
  | p => exact e
  | o xs =>
    simp only [ev_anyl, Option.some.injEq] at e
    subst e
    simp [own1, T.any?, T.seq?, pures_map]
theorem W1.seq {t : T} {d : D} (h : W1 t d) {ds : List D} (e : (T.p d).seq? = some ds) : t.seq? = some ds := by
  cases h with
  | p => exact e
  | o xs =>
    simp only [ev_seql, Option.some.injEq] at e
    subst e
    simp [own1, T.seq?, pures_map]

def EG {α : Type} (τ : α → T) (m : EM) (env : En) (p : Option α) : Prop := ∀ a, p = some a → m env = some (τ a)
abbrev EX := EG T.p
def EW (m : EM) (env : En) (p : Option D) : Prop := ∀ d, p = some d → ∃ t, m env = some t ∧ W1 t d
def BX (m : En → Option Bool) (env : En) (p : Option Bool) : Prop := ∀ b, p = some b → m env = some b
def AX (m : En → Option (List T)) (env : En) (p : Option (List D)) : Prop := ∀ ds, p = some ds → m env = some (ds.map T.p)
def OX (m : OM) (env : En) (p : Option (Option Int)) : Prop := ∀ o, p = some o → m env = some o
def IX (m : En → Option (List D)) (env : En) (p : Option (List D)) : Prop := ∀ ds, p = some ds → m env = some ds
def FR {R : Type} (RT : R → T → Prop) (x : Option T) (p : Option R) : Prop := ∀ d, p = some d → ∃ t, x = some t ∧ RT d t
def RTp (d : D) (t : T) : Prop := t = .p d
def RTo (d : D) (t : T) : Prop := ∃ xs, d = .list xs ∧ t = own1 xs
def RTs (d : D) (t : T) : Prop := t.snap = some d
theorem FR.ps {x : Option T} {p : Option D} (h : FR RTp x p) : FR RTs x p := fun d e => by
  obtain ⟨t, h1, rfl⟩ := h d e
  exact ⟨_, h1, by simp [RTs]⟩
theorem FR.os {x : Option T} {p : Option D} (h : FR RTo x p) : FR RTs x p := fun d e => by
  obtain ⟨t, h1, xs, rfl, rfl⟩ := h d e
  exact ⟨_, h1, snap_own1 xs⟩

section
variable {env : En} {m m1 m2 m3 : EM} {p q r : Option D} {f g : T → T → Option T}
theorem pure_eq {t : T} {d : D} (h : t.pure? = some d) : t = .p d := by
  cases t with
  | p d' => simp [T.pure?] at h; rw [h]
  | _ => simp [T.pure?] at h
theorem bind_pure {x : Option T} {d : D} (h : x.bind T.pure? = some d) : x = some (.p d) := by
  cases x with
  | none => simp at h
  | some t => simp only [Option.bind_some] at h; rw [pure_eq h]
theorem bs {α β : Type} {x : Option α} {k : α → Option β} {b : β} (h : x.bind k = some b) : ∃ a, x = some a ∧ k a = some b := by
  cases x with
  | none => simp at h
  | some a => exact ⟨a, rfl, h⟩
theorem EG.w (h : EX m env p) : EW m env p := fun d e => ⟨_, h d e, .p d⟩
theorem EG.o {p : Option (List D)} (h : EG own1 m env p) : EW m env (p.map PyData.list) := fun d e => by
  simp only [Option.map_eq_some_iff] at e
  obtain ⟨xs, e, rfl⟩ := e
  exact ⟨_, h xs e, .o xs⟩
theorem e_var {α : Type} {τ : α → T} {i : Nat} {a : α} (h : ((env[i]?).join).map T.strip = some (τ a)) : EG τ (mVar i) env (some a) := fun b e => by
  simp only [Option.some.injEq] at e; subst e; exact h
theorem e_ow {i : Nat} {xs : List D} (h : ((env[i]?).join).map T.strip = some (own1 xs)) : EW (mVar i) env (some (.list xs)) := fun b e => by
  simp only [Option.some.injEq] at e; subst e; exact ⟨_, h, .o xs⟩
theorem e_c {d : D} : EX (mC d) env (some d) := fun b e => by
  simp only [Option.some.injEq] at e; subst e; rfl
theorem e_op (h1 : EX m1 env p) (h2 : EX m2 env q) : EX (mOp f m1 m2) env (xop f p q) := fun d e => by
  obtain ⟨a, ea, e⟩ := bs e
  obtain ⟨b, eb, e⟩ := bs e
  simp only [mOp, h1 a ea, h2 b eb, Option.bind_some]
  exact bind_pure e
def V2 (f : T → T → Option T) : Prop := ∀ t1 t2 d1 d2 x, W1 t1 d1 → W1 t2 d2 → op2 f d1 d2 = some x → f t1 t2 = some (.p x)
theorem e_opw (v : V2 f) (h1 : EW m1 env p) (h2 : EW m2 env q) : EX (mOp f m1 m2) env (xop f p q) := fun d e => by
  obtain ⟨a, ea, e⟩ := bs e
  obtain ⟨b, eb, e⟩ := bs e
  obtain ⟨t1, e1, w1⟩ := h1 a ea
  obtain ⟨t2, e2, w2⟩ := h2 b eb
  simp only [mOp, e1, e2, Option.bind_some]
  exact v _ _ _ _ _ w1 w2 e
theorem v2_ne : V2 M.neT := fun t1 t2 d1 d2 x w1 w2 e => by
  have e := bind_pure e
  simp only [M.neT, w1.snap, w2.snap, ev_snap, Option.bind_some] at e ⊢
  exact e
theorem v2_ix : V2 idxT := fun t1 t2 d1 d2 x w1 w2 e => by
  cases w2 with
  | o xs => simp [op2, idxT, T.int?] at e
  | p d2 =>
    cases w1 with
    | p => exact bind_pure e
    | o xs =>
      have e := bind_pure e
      cases d2 with
      | int i =>
        simp only [ev_ixl] at e
        simp only [own1, ev_ixm]
        rw [show atI (xs.map T.p) i = (atI xs i).map T.p by
          simp only [atI, List.length_map]
          cases ixN xs.length i <;> simp [List.getElem?_map]]
        exact e
      | _ => simp [idxT, T.int?] at e
theorem v2_add : V2 addT := fun t1 t2 d1 d2 x w1 w2 e => by
  have e := bind_pure e
  have l1 : ∀ {t : T} {d : D}, W1 t d → t.int? = (T.p d).int? ∧ t.lst? = (T.p d).lst? ∧ t.ptup? = (T.p d).ptup? := by
    intro t d w
    cases w with
    | p => exact ⟨rfl, rfl, rfl⟩
    | o xs => exact ⟨rfl, by simp [own1, T.lst?, pures_map], rfl⟩
  have a := l1 w1
  have b := l1 w2
  cases w1 with
  | p =>
    cases w2 with
    | p => exact e
    | o ys =>
      unfold addT at e ⊢
      rw [b.1, b.2.1, b.2.2]
      cases d1 <;> simp_all [T.int?, T.lst?, T.ptup?]
  | o xs =>
    unfold addT at e ⊢
    rw [a.1, a.2.1, a.2.2, b.1, b.2.1, b.2.2]
    cases w2 with
    | p => cases d2 <;> simp_all [T.int?, T.lst?, T.ptup?]
    | o ys => simp_all [T.int?, T.lst?, T.ptup?]
theorem e_f1 {f : List T → Option T} (h : EX m env p) : EX (mCall f (aCons m aNil)) env (xf1 f p) := fun d e => by
  obtain ⟨a, ea, e⟩ := bs e
  simp only [mCall, aCons, aNil, h a ea, Option.bind_some, Option.map_some]
  exact bind_pure e
def V1 (f : List T → Option T) : Prop := ∀ t d x, W1 t d → (f [.p d]).bind T.pure? = some x → f [t] = some (.p x)
theorem e_f1w {f : List T → Option T} (v : V1 f) (h : EW m env p) : EX (mCall f (aCons m aNil)) env (xf1 f p) := fun d e => by
  obtain ⟨a, ea, e⟩ := bs e
  obtain ⟨t, e1, w⟩ := h a ea
  simp only [mCall, aCons, aNil, e1, Option.bind_some, Option.map_some]
  exact v t a d w e
theorem v1_len : V1 lenT := fun t d x w e => by
  have e := bind_pure e
  cases w with
  | p => exact e
  | o xs => simpa [own1, lenT, T.kids] using e
theorem b_val (h : EX m env p) : BX (bVal m) env (xbool p) := fun b e => by
  obtain ⟨a, ea, e⟩ := bs e
  simp only [bVal, h a ea, Option.bind_some]
  cases a <;> simp [boolD?] at e
  subst e; rfl
theorem b_op (h : EX (mOp f m1 m2) env p) : BX (bOp f m1 m2) env (xbool p) := b_val h
theorem b_and {c1 c2 : En → Option Bool} {p q : Option Bool} (h1 : BX c1 env p) (h2 : BX c2 env q) : BX (bAnd c1 c2) env (xand p q) := fun b e => by
  obtain ⟨a, ea, e⟩ := bs e
  simp only [bAnd, h1 a ea, Option.bind_some]
  cases a with
  | true => simpa using h2 b (by simpa using e)
  | false => simpa using e
theorem b_or {c1 c2 : En → Option Bool} {p q : Option Bool} (h1 : BX c1 env p) (h2 : BX c2 env q) : BX (bOr c1 c2) env (xor' p q) := fun b e => by
  obtain ⟨a, ea, e⟩ := bs e
  simp only [bOr, h1 a ea, Option.bind_some]
  cases a with
  | true => simpa using e
  | false => simpa using h2 b (by simpa using e)
theorem b_not {c1 : En → Option Bool} {p : Option Bool} (h1 : BX c1 env p) : BX (bNot c1) env (xnot p) := fun b e => by
  simp only [xnot, Option.map_eq_some_iff] at e
  obtain ⟨a, ea, rfl⟩ := e
  simp only [bNot, h1 a ea, Option.map_some]
theorem e_and (h1 : EX m1 env p) (h2 : EX m2 env q) : EX (mAnd m1 m2) env (xmand p q) := fun d e => by
  obtain ⟨c, ec, e⟩ := bs e
  obtain ⟨a, ea, ec⟩ := bs ec
  cases a <;> simp [boolD?] at ec
  subst ec
  simp only [mAnd, h1 _ ea, Option.bind_some, ev_bool]
  rename_i b
  cases b with
  | true => simpa using h2 d (by simpa using e)
  | false => simpa using e
theorem e_or (h1 : EX m1 env p) (h2 : EX m2 env q) : EX (mOr m1 m2) env (xmor p q) := fun d e => by
  obtain ⟨c, ec, e⟩ := bs e
  obtain ⟨a, ea, ec⟩ := bs ec
  cases a <;> simp [boolD?] at ec
  subst ec
  simp only [mOr, h1 _ ea, Option.bind_some, ev_bool]
  rename_i b
  cases b with
  | true => simpa using e
  | false => simpa using h2 d (by simpa using e)
theorem e_if {c : En → Option Bool} {pc : Option Bool} (hc : BX c env pc) (h1 : EX m1 env p) (h2 : EX m2 env q) : EX (mIf c m1 m2) env (xif pc p q) := fun d e => by
  obtain ⟨b, eb, e⟩ := bs e
  simp only [mIf, hc b eb, Option.bind_some]
  cases b with
  | true => simpa using h1 d (by simpa using e)
  | false => simpa using h2 d (by simpa using e)
theorem e_chain (h1 : EX m1 env p) (h2 : EX m2 env q) (h3 : EX m3 env r) : EX (mChain f g m1 m2 m3) env (xchain f g p q r) := fun d e => by
  obtain ⟨a, ea, e⟩ := bs e
  obtain ⟨b, eb, e⟩ := bs e
  obtain ⟨c, ec, e⟩ := bs e
  obtain ⟨k, ek, ec⟩ := bs ec
  have ek := bind_pure ek
  cases k with
  | bool x =>
   simp only [boolD?, Option.some.injEq] at ec
   subst ec
   simp only [mChain, h1 a ea, h2 b eb, ek, ev_bool, Option.bind_some]
   cases x with
   | true =>
    simp only [if_true] at e ⊢
    obtain ⟨u, eu, e⟩ := bs e
    simp only [h3 u eu, Option.bind_some]
    exact bind_pure e
   | false => simpa using e
  | _ => simp [boolD?] at ec
theorem e_neg (h : EX m env p) : EX (mNeg m) env (xneg p) := fun d e => by
  obtain ⟨a, ea, e⟩ := bs e
  cases a <;> simp [intD?] at e
  subst e
  simp only [mNeg, h _ ea, Option.bind_some, ev_int, Option.map_some]
theorem o_none : OX oNone env (some none) := fun o e => by simp only [Option.some.injEq] at e; subst e; rfl
theorem o_some (h : EX m env p) : OX (oSome m) env (xint p) := fun o e => by
  obtain ⟨a, ea, e⟩ := bs e
  cases a <;> simp [intD?] at e
  subst e
  simp only [oSome, h _ ea, Option.bind_some, ev_int, Option.map_some]
theorem e_slice {lo hi : OM} {a b : Option (Option Int)} (h : EX m env p) (h1 : OX lo env a) (h2 : OX hi env b) : EX (mSlice m lo hi) env (xslice p a b) := fun d e => by
  obtain ⟨x, ex, e⟩ := bs e
  obtain ⟨y, ey, e⟩ := bs e
  obtain ⟨z, ez, e⟩ := bs e
  simp only [mSlice, h x ex, h1 y ey, h2 z ez, Option.bind_some]
  exact bind_pure e
theorem e_slicew {lo hi : OM} {a b : Option (Option Int)} (h : EW m env p) (h1 : OX lo env a) (h2 : OX hi env b) : EX (mSlice m lo hi) env (xslice p a b) := fun d e => by
  obtain ⟨x, ex, e⟩ := bs e
  obtain ⟨y, ey, e⟩ := bs e
  obtain ⟨z, ez, e⟩ := bs e
  obtain ⟨t, et, w⟩ := h x ex
  simp only [mSlice, et, h1 y ey, h2 z ez, Option.bind_some]
  have e := bind_pure e
  cases w with
  | p => exact e
  | o xs => simpa [sliceT, own1, T.seq?, pures_map] using e
theorem e_rev (h : EX m env p) : EX (mRevT m) env (xrev p) := fun d e => by
  obtain ⟨x, ex, e⟩ := bs e
  simp only [mRevT, h x ex, Option.bind_some]
  cases x <;> simp at e <;> subst e <;> rfl
theorem e_listR (h : EX m env p) : EX (mListR1 m) env (xlistR p) := fun d e => by
  obtain ⟨x, ex, e⟩ := bs e
  obtain ⟨j, ej, e⟩ := bs e
  cases x <;> simp [intD?] at ej
  subst ej
  simp only [mListR1, h _ ex, Option.bind_some, ev_int]
  split
  · rename_i hh; rw [if_pos hh] at e; simp only [Option.some.injEq] at e; rw [e]
  · rename_i hh; rw [if_neg hh] at e; simp at e
theorem e_isi {n : String} (h : EW m env p) : EX (mIsi n m) env (xisi n p) := fun d e => by
  simp only [xisi, Option.map_eq_some_iff] at e
  obtain ⟨a, ea, rfl⟩ := e
  obtain ⟨t, et, w⟩ := h a ea
  simp only [mIsi, et, Option.bind_some, isiT, w.snap, Option.map_some]
theorem a_nil : AX aNil env (xseq []) := fun ds e => by
  simp only [xseq, Option.some.injEq] at e; subst e; rfl
theorem a_cons {ms : En → Option (List T)} {l : List (Option D)} (h : EX m env p) (hs : AX ms env (xseq l)) : AX (aCons m ms) env (xseq (p :: l)) := fun ds e => by
  obtain ⟨a, ea, e⟩ := bs e
  simp only [Option.map_eq_some_iff] at e
  obtain ⟨as, eas, rfl⟩ := e
  simp only [aCons, h a ea, hs as eas, Option.bind_some, Option.map_some, List.map_cons]
theorem xseq_len : ∀ {l : List (Option D)} {ds : List D}, xseq l = some ds → ds.length = l.length
  | [], ds, e => by simp only [xseq, Option.some.injEq] at e; subst e; rfl
  | p :: l, ds, e => by
    obtain ⟨a, ea, e⟩ := bs e
    simp only [Option.map_eq_some_iff] at e
    obtain ⟨as, eas, rfl⟩ := e
    simp [xseq_len eas]
theorem e_tup {ms : En → Option (List T)} {l : List (Option D)} (h : AX ms env (xseq l)) (hl : l.length ≤ LIM := by exact Nat.le_of_ble_eq_true rfl) : EX (mTup ms) env (xtup l) := fun d e => by
  simp only [xtup, Option.map_eq_some_iff] at e
  obtain ⟨ds, e, rfl⟩ := e
  have hn : ds.length ≤ LIM := by rw [xseq_len e]; exact hl
  simp only [mTup, h ds e, Option.bind_some, pures_map, hn, if_true]
theorem e_lst {ms : En → Option (List T)} {l : List (Option D)} (h : AX ms env (xseq l)) (hl : l.length ≤ LIM := by exact Nat.le_of_ble_eq_true rfl) : EX (mLst ms) env (xlst l) := fun d e => by
  simp only [xlst, Option.map_eq_some_iff] at e
  obtain ⟨ds, e, rfl⟩ := e
  have hn : ds.length ≤ LIM := by rw [xseq_len e]; exact hl
  simp only [mLst, h ds e, Option.bind_some, pures_map, hn, if_true]
theorem i_seq (h : EX m env p) : IX (iSeq m) env (iseq p) := fun ds e => by
  obtain ⟨a, ea, e⟩ := bs e
  simp only [iSeq, h a ea, Option.bind_some]
  cases a <;> simp [seqD?] at e <;> subst e <;> rfl
theorem i_seqB (h : EW m env p) : IX (iSeqB m) env (iseq p) := fun ds e => by
  obtain ⟨a, ea, e⟩ := bs e
  obtain ⟨t, et, w⟩ := h a ea
  simp only [iSeqB, et, Option.bind_some]
  refine w.any ?_
  cases a <;> simp [seqD?] at e <;> subst e <;> rfl
theorem i_rng1 (h : EX m env p) : IX (M.iRng1 m) env (irng1 p) := fun ds e => by
  obtain ⟨a, ea, e⟩ := bs e
  obtain ⟨j, ej, e⟩ := bs e
  cases a <;> simp [intD?] at ej
  subst ej
  simp only [M.iRng1, h _ ea, Option.bind_some, ev_int]
  exact e
theorem i_enum (h : EX m env p) : IX (iEn m) env (ienum p) := fun ds e => by
  obtain ⟨a, ea, e⟩ := bs e
  simp only [iEn, h _ ea, Option.bind_some]
  cases a <;> simp at e
  subst e; rfl
variable {mi : En → Option (List D)} {il : Option (List D)} {vs : List Nat} {gg : D → En → Option En} {tt : En → Option Bool} {me : EM}
theorem lc_run {e0 : En} {h : D → Option (Option D)} (hb : ∀ d y, h d = some y → ∃ e, gg d e0 = some e ∧ match y with | none => tt e = some false | some y => tt e = some true ∧ me e = some (.p y)) :
    ∀ (ds out : List D), lcP h ds = some out → lcRun gg tt me e0 ds = some out
  | [], out, e => by simp only [lcP, Option.some.injEq] at e; subst e; rfl
  | d :: r, out, e => by
    obtain ⟨y, ey, e⟩ := bs e
    simp only [Option.map_eq_some_iff] at e
    obtain ⟨ys, eys, e⟩ := e
    obtain ⟨e1, h1, h2⟩ := hb d y ey
    have ih := lc_run hb r ys eys
    cases y with
    | none => simp only at h2 e; simp only [lcRun, h1, h2, Option.bind_some, ih, Bool.false_eq_true, if_false, e]
    | some y => simp only at h2 e; simp only [lcRun, h1, h2.1, h2.2, Option.bind_some, ih, if_true, ev_pure, Option.map_some, e]
theorem map_run {e0 : En} {h : D → Option D} (hb : ∀ d y, h d = some y → ∃ e, gg d e0 = some e ∧ me e = some (.p y)) :
    ∀ (ds out : List D), mapP h ds = some out → lcRun gg bYes me e0 ds = some out
  | [], out, e => by simp only [mapP, Option.some.injEq] at e; subst e; rfl
  | d :: r, out, e => by
    obtain ⟨y, ey, e⟩ := bs e
    simp only [Option.map_eq_some_iff] at e
    obtain ⟨ys, eys, rfl⟩ := e
    obtain ⟨e1, h1, h2⟩ := hb d y ey
    simp only [lcRun, h1, bYes, h2, Option.bind_some, map_run hb r ys eys, if_true, ev_pure, Option.map_some]
theorem lim_eq {p : Option (List D)} {ds : List D} (h : lim p = some ds) : p = some ds ∧ ds.length ≤ LIM := by
  obtain ⟨x, ex, h⟩ := bs h
  split at h
  · rename_i hh; simp only [Option.some.injEq] at h; subst h; exact ⟨ex, hh⟩
  · simp at h
/-- the element judged behind the target: by a name -/
theorem e_lc {i : Nat} {ht : D → Option Bool} {hm : D → Option D} (hi : IX mi env il) (hb : ∀ d, BX tt ((wipeE env vs).set i (some (.p d))) (ht d) ∧ EX me ((wipeE env vs).set i (some (.p d))) (hm d)) :
    EX (mLc mi vs (gNm i) tt me) env (xlc (fun d => xflt (ht d) (hm d)) il) := fun d e => by
  simp only [xlc, Option.map_eq_some_iff] at e
  obtain ⟨out, e, rfl⟩ := e
  obtain ⟨e, hl⟩ := lim_eq e
  obtain ⟨ds, e1, e⟩ := bs e
  have := lc_run (gg := gNm i) (tt := tt) (me := me) (e0 := wipeE env vs) (h := fun d => xflt (ht d) (hm d)) (fun d y ey => ⟨_, rfl, by
    obtain ⟨b, eb, ey⟩ := bs ey
    cases b with
    | true =>
      simp only [if_true, Option.map_eq_some_iff] at ey
      obtain ⟨z, ez, rfl⟩ := ey
      exact ⟨(hb d).1 _ eb, (hb d).2 z ez⟩
    | false =>
      simp only [Bool.false_eq_true, if_false, Option.some.injEq] at ey
      subst ey
      exact (hb d).1 _ eb⟩) ds out e
  simp only [mLc, hi ds e1, Option.bind_some, this, hl, if_true]
theorem e_map {i : Nat} {hm : D → Option D} (hi : IX mi env il) (hb : ∀ d, EX me ((wipeE env vs).set i (some (.p d))) (hm d)) :
    EX (mLc mi vs (gNm i) bYes me) env (xmap hm il) := fun d e => by
  simp only [xmap, Option.map_eq_some_iff] at e
  obtain ⟨out, e, rfl⟩ := e
  obtain ⟨e, hl⟩ := lim_eq e
  obtain ⟨ds, e1, e⟩ := bs e
  have := map_run (gg := gNm i) (me := me) (e0 := wipeE env vs) (h := hm) (fun d y ey => ⟨_, rfl, hb d y ey⟩) ds out e
  simp only [mLc, hi ds e1, Option.bind_some, this, hl, if_true]
abbrev g2 (i j : Nat) : D → En → Option En := gTp (gCn (gNm i) (gCn (gNm j) gNl))
abbrev g3 (i j k : Nat) : D → En → Option En := gTp (gCn (gNm i) (gCn (gNm j) (gCn (gNm k) gNl)))
abbrev g4 (i j k l : Nat) : D → En → Option En := gTp (gCn (gNm i) (gCn (gNm j) (gCn (gNm k) (gCn (gNm l) gNl))))
theorem un2_eq {R : Type} {d : D} {k : D → D → Option R} {r : R} (h : un2 d k = some r) : ∃ a b, d = .tuple [a, b] ∧ k a b = some r := by
  unfold un2 at h
  split at h
  · exact ⟨_, _, rfl, h⟩
  · simp at h
theorem e_lc2 {i j : Nat} {ht : D → D → Option Bool} {hm : D → D → Option D} (hi : IX mi env il) (hb : ∀ a b, BX tt (((wipeE env vs).set i (some (.p a))).set j (some (.p b))) (ht a b) ∧ EX me (((wipeE env vs).set i (some (.p a))).set j (some (.p b))) (hm a b)) :
    EX (mLc mi vs (g2 i j) tt me) env (xlc (fun d => un2 d fun a b => xflt (ht a b) (hm a b)) il) := fun d e => by
  simp only [xlc, Option.map_eq_some_iff] at e
  obtain ⟨out, e, rfl⟩ := e
  obtain ⟨e, hl⟩ := lim_eq e
  obtain ⟨ds, e1, e⟩ := bs e
  have := lc_run (gg := g2 i j) (tt := tt) (me := me) (e0 := wipeE env vs) (h := fun d => un2 d fun a b => xflt (ht a b) (hm a b)) (fun d y ey => by
    obtain ⟨a, b', rfl, ey⟩ := un2_eq ey
    refine ⟨_, rfl, ?_⟩
    obtain ⟨b, eb, ey⟩ := bs ey
    cases b with
    | true =>
      simp only [if_true, Option.map_eq_some_iff] at ey
      obtain ⟨z, ez, rfl⟩ := ey
      exact ⟨(hb a b').1 _ eb, (hb a b').2 z ez⟩
    | false =>
      simp only [Bool.false_eq_true, if_false, Option.some.injEq] at ey
      subst ey
      exact (hb a b').1 _ eb) ds out e
  simp only [mLc, hi ds e1, Option.bind_some, this, hl, if_true]
theorem e_map2 {i j : Nat} {hm : D → D → Option D} (hi : IX mi env il) (hb : ∀ a b, EX me (((wipeE env vs).set i (some (.p a))).set j (some (.p b))) (hm a b)) :
    EX (mLc mi vs (g2 i j) bYes me) env (xmap (fun d => un2 d hm) il) := fun d e => by
  simp only [xmap, Option.map_eq_some_iff] at e
  obtain ⟨out, e, rfl⟩ := e
  obtain ⟨e, hl⟩ := lim_eq e
  obtain ⟨ds, e1, e⟩ := bs e
  have := map_run (gg := g2 i j) (me := me) (e0 := wipeE env vs) (h := fun d => un2 d hm) (fun d y ey => by
    obtain ⟨a, b, rfl, ey⟩ := un2_eq ey
    exact ⟨_, rfl, hb a b y ey⟩) ds out e
  simp only [mLc, hi ds e1, Option.bind_some, this, hl, if_true]
end
end N
namespace N
open PySem PySem.Spec PyProof.Rows L2 M

def Fz {α : Type} (τ : α → T) : Prop := ∀ a, (τ a).frozen = true
theorem fz_p : Fz T.p := fun _ => rfl
theorem fz_sc : Fz T.sc := fun _ => rfl
section
variable {env : En} {fn : List T → Option T} {α β γ δ ε ζ : Type} {τ1 : α → T} {τ2 : β → T} {τ3 : γ → T} {τ4 : δ → T} {τ5 : ε → T} {τ6 : ζ → T} {m1 m2 m3 m4 m5 m6 : EM}
  {p1 : Option α} {p2 : Option β} {p3 : Option γ} {p4 : Option δ} {p5 : Option ε} {p6 : Option ζ}
theorem call_s {ts : List T} {p : Option D} (hf : ts.all T.frozen = true) (h : FR RTs (fn ts) p) {d : D} (e : p = some d) : callT fn ts = some (.p d) := by
  obtain ⟨t, h1, h2⟩ := h d e
  have h2 : t.snap = some d := h2
  simp only [callT, hf, if_true, h1, Option.bind_some, h2, Option.map_some]
theorem e_call1 {P : α → Option D} (h1 : EG τ1 m1 env p1) (f1 : Fz τ1) (R : ∀ a, FR RTs (fn [τ1 a]) (P a)) : EX (mCall (callT fn) (aCons m1 aNil)) env (ap1 P p1) := fun d e => by
  obtain ⟨a, ea, e⟩ := bs e
  simp only [mCall, aCons, aNil, h1 a ea, Option.bind_some, Option.map_some]
  exact call_s (by simp [f1 a]) (R a) e
theorem e_call2 {P : α → β → Option D} (h1 : EG τ1 m1 env p1) (h2 : EG τ2 m2 env p2) (f1 : Fz τ1) (f2 : Fz τ2) (R : ∀ a b, FR RTs (fn [τ1 a, τ2 b]) (P a b)) : EX (mCall (callT fn) (aCons m1 (aCons m2 aNil))) env (ap2 P p1 p2) := fun d e => by
  obtain ⟨a, ea, e⟩ := bs e
  obtain ⟨b, eb, e⟩ := bs e
  simp only [mCall, aCons, aNil, h1 a ea, h2 b eb, Option.bind_some, Option.map_some]
  exact call_s (by simp [f1 a, f2 b]) (R a b) e
theorem e_call3 {P : α → β → γ → Option D} (h1 : EG τ1 m1 env p1) (h2 : EG τ2 m2 env p2) (h3 : EG τ3 m3 env p3) (f1 : Fz τ1) (f2 : Fz τ2) (f3 : Fz τ3) (R : ∀ a b c, FR RTs (fn [τ1 a, τ2 b, τ3 c]) (P a b c)) : EX (mCall (callT fn) (aCons m1 (aCons m2 (aCons m3 aNil)))) env (ap3 P p1 p2 p3) := fun d e => by
  obtain ⟨a, ea, e⟩ := bs e
  obtain ⟨b, eb, e⟩ := bs e
  obtain ⟨c, ec, e⟩ := bs e
  simp only [mCall, aCons, aNil, h1 a ea, h2 b eb, h3 c ec, Option.bind_some, Option.map_some]
  exact call_s (by simp [f1 a, f2 b, f3 c]) (R a b c) e
/-- an old mirror -/
theorem fr_qc {ts : List T} (hf : ts.all T.frozen = true) : FR RTs (fn ts) (qc fn ts) := fun d e => by
  obtain ⟨t, et, e⟩ := bs e
  have e := pure_eq e
  subst e
  simp only [callT, hf, if_true] at et
  obtain ⟨u, eu, et⟩ := bs et
  refine ⟨u, eu, ?_⟩
  simp only [Option.map_eq_some_iff, T.p.injEq] at et
  obtain ⟨x, ex, rfl⟩ := et
  exact ex
def flatO (p : Option D) : Option D := p.bind fun d => if flatD d then some d else none
variable {q1 q2 q3 q4 q5 : Option D}
end

section
variable {env : En} {m m1 m2 : EM} {p q : Option D}
def asL (p : Option D) : Option (List D) := p.bind fun d => match d with
  | .list xs => some xs
  | _ => none
theorem f_pure (h : EX m env p) : EX (mPure m) env p := fun d e => by simp only [mPure, h d e, Option.bind_some, ev_pure, Option.map_some]
theorem f_lst {ms : En → Option (List T)} {l : List (Option D)} (h : AX ms env (xseq l)) (hl : l.length ≤ LIM := by exact Nat.le_of_ble_eq_true rfl) : EG own1 (mLstF ms) env (xseq l) := fun ds e => by
  have hn : (ds.map T.p).length ≤ LIM := by rw [List.length_map, xseq_len e]; exact hl
  simp only [mLstF, h ds e, Option.bind_some, hn, if_true, own1]
theorem af_cons {ms : En → Option (List T)} {l : List (Option D)} (h : EX m env p) (hs : AX ms env (xseq l)) : AX (aCons (mPure m) ms) env (xseq (p :: l)) := a_cons (f_pure h) hs
theorem f_list (h : EW m env p) : EG own1 (mListF m) env (iseq p) := fun ds e => by
  obtain ⟨a, ea, e⟩ := bs e
  obtain ⟨t, et, w⟩ := h a ea
  have : t.any? = some ds := w.any (by cases a <;> simp [seqD?] at e <;> subst e <;> rfl)
  simp only [mListF, et, Option.bind_some, this, Option.map_some, own1]
noncomputable def xrep (p q : Option D) : Option (List D) := p.bind fun d => (match d with | .list xs => some xs | _ => none).bind fun xs => q.bind fun e => (intD? e).bind fun j => if rep62 xs.length j then some (List.replicate j.toNat xs).flatten else none
theorem f_rep (h : EX m1 env p) (h2 : EX m2 env q) : EG own1 (mRepF m1 m2) env (xrep p q) := fun ds e => by
  obtain ⟨a, ea, e⟩ := bs e
  obtain ⟨xs, exs, e⟩ := bs e
  obtain ⟨b, eb, e⟩ := bs e
  obtain ⟨j, ej, e⟩ := bs e
  cases a <;> simp at exs
  cases b <;> simp [intD?] at ej
  subst exs ej
  simp only [mRepF, h _ ea, h2 _ eb, Option.bind_some, ev_lstl, ev_int]
  split at e
  · rename_i hh
    simp only [Option.some.injEq] at e
    subst e
    rw [if_pos hh]; rfl
  · simp at e
/-- list of owned lists -/
def mapP2 (h : D → Option (List D)) : List D → Option (List (List D))
  | [] => some []
  | d :: r => (h d).bind fun y => (mapP2 h r).map fun ys => y :: ys
def xmap2 (h : D → Option (List D)) (q : Option (List D)) : Option (List (List D)) := q.bind fun ds => (mapP2 h ds).bind fun out => if out.length ≤ LIM then some out else none
theorem map2_run {i : Nat} {me : EM} {e0 : En} {h : D → Option (List D)} (hb : ∀ d, EG own1 me (e0.set i (some (.p d))) (h d)) : ∀ (ds : List D) (out : List (List D)), mapP2 h ds = some out → lcRunT (gNm i) bYes me e0 ds = some (out.map own1)
  | [], out, e => by simp only [mapP2, Option.some.injEq] at e; subst e; rfl
  | d :: r, out, e => by
    obtain ⟨y, ey, e⟩ := bs e
    simp only [Option.map_eq_some_iff] at e
    obtain ⟨ys, eys, rfl⟩ := e
    simp only [lcRunT, gNm, bYes, Option.bind_some, if_true, hb d y ey, map2_run hb r ys eys, Option.map_some, List.map_cons]
theorem f_lc2 {mi : En → Option (List D)} {il : Option (List D)} {vs : List Nat} {i : Nat} {me : EM} {hm : D → Option (List D)} (hi : IX mi env il) (hb : ∀ d, EG own1 me ((wipeE env vs).set i (some (.p d))) (hm d)) :
    EG own2 (mLcT mi vs (gNm i) bYes me) env (xmap2 hm il) := fun out e => by
  obtain ⟨ds, e1, e⟩ := bs e
  obtain ⟨o, e2, e⟩ := bs e
  split at e
  · rename_i hl
    simp only [Option.some.injEq] at e
    subst e
    have : (o.map own1).length ≤ LIM := by rw [List.length_map]; exact hl
    simp only [mLcT, hi ds e1, Option.bind_some, map2_run hb ds o e2, this, if_true, own2]
  · simp at e
def xdget (x : List (Key × D)) (q : Option D) : Option D := q.bind fun c => (keyOf? c).bind fun k => valD x k
def xdin (x : List (Key × D)) (q : Option D) : Option D := q.bind fun c => (keyOf? c).map fun k => .bool (valD x k).isSome
def xdnin (x : List (Key × D)) (q : Option D) : Option D := q.bind fun c => (keyOf? c).map fun k => .bool (!(valD x k).isSome)
theorem e_din {x : List (Key × D)} {t : T} (h1 : m1 env = some t) (hd : t.dct? = some x) (h2 : EX m2 env q) : EX (mOp dInT m2 m1) env (xdin x q) := fun d e => by
  obtain ⟨c, ec, e⟩ := bs e
  simp only [Option.map_eq_some_iff] at e
  obtain ⟨k, ek, rfl⟩ := e
  simp only [mOp, h1, h2 c ec, Option.bind_some, dInT, hd, ev_pure, ek, Option.map_some]
theorem e_dnin {x : List (Key × D)} {t : T} (h1 : m1 env = some t) (hd : t.dct? = some x) (h2 : EX m2 env q) : EX (mOp dNotInT m2 m1) env (xdnin x q) := fun d e => by
  obtain ⟨c, ec, e⟩ := bs e
  simp only [Option.map_eq_some_iff] at e
  obtain ⟨k, ek, rfl⟩ := e
  simp only [mOp, h1, h2 c ec, Option.bind_some, dNotInT, hd, ev_pure, ek, Option.map_some]
theorem f_dnew : EG T.md mDNew env (some []) := fun a e => by simp only [Option.some.injEq] at e; subst e; rfl
def xdone (p q : Option D) : Option (List (Key × D)) := p.bind fun c => (keyOf? c).bind fun k => q.map fun d => [(k, d)]
theorem f_done (h1 : EX m1 env p) (h2 : EX m2 env q) : EG T.md (mDOne m1 m2) env (xdone p q) := fun a e => by
  obtain ⟨c, ec, e⟩ := bs e
  obtain ⟨k, ek, e⟩ := bs e
  simp only [Option.map_eq_some_iff] at e
  obtain ⟨d, ed, rfl⟩ := e
  simp only [mDOne, h1 c ec, h2 d ed, Option.bind_some, ev_pure, ek, Option.map_some]
end

/-- a dict as data -/
def dD (x : List (Key × D)) : D := .dict (x.map fun p => (keyD p.1, p.2))
theorem rts_md (x : List (Key × D)) : RTs (dD x) (.md x) := by simp [RTs, T.snap, dD]
def SB {R : Type} (m : SM) (env : En) (p : Option R) (Z : R → Out → Prop) : Prop := ∀ r, p = some r → ∃ o, m env = some o ∧ Z r o
inductive Ct (S ρ : Type) where
  | nx (s : S) | bk (s : S) | rt (d : ρ)
def ZR (RT : D → T → Prop) : D → Out → Prop := fun d o => (∃ t, o = .rt t ∧ RT d t) ∨ ∃ e, o = .nx e ∧ RT d (.p .none)
def ZN {S J : Type} (enc : S → J → En) : S → Out → Prop := fun s o => ∃ j, o = .nx (enc s j) ∨ o = .ct (enc s j)
def ZI {S J : Type} (enc : S → J → En) : S → Out → Prop := fun s o => ∃ j, o = .nx (enc s j)
def ZC {S J ρ : Type} (RT : ρ → T → Prop) (enc : S → J → En) : Ct S ρ → Out → Prop
  | .nx s, o => ∃ j, o = .nx (enc s j) ∨ o = .ct (enc s j)
  | .bk s, o => ∃ j, o = .bk (enc s j)
  | .rt d, o => ∃ t, o = .rt t ∧ RT d t
section
variable {R : Type} {env : En} {a b c rest : SM} {Z : R → Out → Prop} {p : Option R} {me me2 mi : EM} {q q2 : Option D} {i j : Nat}
theorem run_fr {RT : D → T → Prop} {n : Nat} {body : SM} {ts : List T} {p : Option D} (h : SB body (startE n ts) p (ZR RT)) : FR RT (runFn n body ts) p := fun d e => by
  obtain ⟨o, h1, h2⟩ := h d e
  rcases h2 with ⟨t, rfl, h2⟩ | ⟨e', rfl, h2⟩
  · exact ⟨t, by simp only [runFn, h1, Option.bind_some], h2⟩
  · exact ⟨_, by simp only [runFn, h1, Option.bind_some], h2⟩
theorem sb_one (h : SB (sCons a sNil) env p Z) : SB a env p Z := fun r e => by
  obtain ⟨o, h1, h2⟩ := h r e
  refine ⟨o, ?_, h2⟩
  simp only [sCons] at h1
  obtain ⟨o', e1, h1⟩ := bs h1
  rw [e1]
  cases o' <;> simpa [sNil] using h1
theorem sb_assoc (h : SB (sCons a (sCons b c)) env p Z) : SB (sCons (sCons a b) c) env p Z := fun r e => by
  obtain ⟨o, h1, h2⟩ := h r e
  refine ⟨o, ?_, h2⟩
  simp only [sCons] at h1 ⊢
  obtain ⟨o', e1, h1⟩ := bs h1
  rw [e1]
  cases o' <;> simpa using h1
theorem sb_skip (h : SB rest env p Z) : SB (sCons sNil rest) env p Z := fun r e => by
  obtain ⟨o, h1, h2⟩ := h r e
  exact ⟨o, by simpa [sCons, sNil] using h1, h2⟩
theorem sb_nil {r : R} (h : Z r (.nx env)) : SB sNil env (some r) Z := fun r' e => by
  simp only [Option.some.injEq] at e; subst e; exact ⟨_, rfl, h⟩
theorem sb_never : SB a env (none : Option R) Z := fun r e => by simp at e
theorem sb_set {k : D → Option R} (he : EX me env q) (hk : ∀ d, SB rest (env.set i (some (.p d))) (k d) Z) : SB (sCons (sSet i me) rest) env (q.bind k) Z := fun r e => by
  obtain ⟨d, ed, e⟩ := bs e
  obtain ⟨o, h1, h2⟩ := hk d r e
  exact ⟨o, by simp only [sCons, sSet, he d ed, Option.bind_some, ev_pure, Option.map_some, h1], h2⟩
theorem sb_setF {α : Type} {τ : α → T} {q : Option α} {k : α → Option R} (he : EG τ me env q) (hk : ∀ d, SB rest (env.set i (some (τ d))) (k d) Z) : SB (sCons (sSetF i me) rest) env (q.bind k) Z := fun r e => by
  obtain ⟨d, ed, e⟩ := bs e
  obtain ⟨o, h1, h2⟩ := hk d r e
  exact ⟨o, by simp only [sCons, sSetF, he d ed, Option.map_some, Option.bind_some, h1], h2⟩
theorem sb_expr (he : EX me env q) (hk : SB rest env p Z) : SB (sCons (sExpr me) rest) env (q.bind fun _ => p) Z := fun r e => by
  obtain ⟨d, ed, e⟩ := bs e
  obtain ⟨o, h1, h2⟩ := hk r e
  exact ⟨o, by simp only [sCons, sExpr, he d ed, Option.map_some, Option.bind_some, h1], h2⟩
theorem sb_asg2 {k : D → D → Option R} (he : EX me env q) (hk : ∀ x y, SB rest ((env.set i (some (.p x))).set j (some (.p y))) (k x y) Z) : SB (sCons (sAsg (g2 i j) me) rest) env (q.bind fun d => un2 d k) Z := fun r e => by
  obtain ⟨d, ed, e⟩ := bs e
  obtain ⟨x, y, rfl, e⟩ := un2_eq e
  obtain ⟨o, h1, h2⟩ := hk x y r e
  exact ⟨o, by simp only [sCons, sAsg, he _ ed, Option.bind_some, ev_pure, gTp, gCn, gNm, gNl, Option.map_some, h1], h2⟩
theorem sb_ret {k : D → R} (he : EX me env q) (hz : ∀ d, Z (k d) (.rt (.p d))) : SB (sCons (sRet me) rest) env (q.map k) Z := fun r e => by
  simp only [Option.map_eq_some_iff] at e
  obtain ⟨d, ed, rfl⟩ := e
  exact ⟨_, by simp only [sCons, sRet, he d ed, Option.bind_some, ev_pure, Option.map_some], hz d⟩
theorem sb_ret0 {Z : D → Out → Prop} (he : EX me env q) (hz : ∀ d, Z d (.rt (.p d))) : SB (sCons (sRet me) rest) env q Z := fun d ed =>
  ⟨_, by simp only [sCons, sRet, he d ed, Option.bind_some, ev_pure, Option.map_some], hz d⟩
theorem sb_retV {r : R} {t : T} (h : (env[i]?).join = some t) (hz : Z r (.rt t)) : SB (sCons (sRetV i) rest) env (some r) Z := fun r' e => by
  simp only [Option.some.injEq] at e; subst e
  exact ⟨_, by simp only [sCons, sRetV, slotT, h, Option.map_some, Option.bind_some], hz⟩
theorem sb_frz {t : T} {d : D} (h : env[i]? = some (some t)) (hs : t.snap = some d) (hk : SB a (env.set i (some (.p d))) p Z) : SB (sFrz i a) env p Z := fun r e => by
  obtain ⟨o, h1, h2⟩ := hk r e
  exact ⟨o, by simp only [sFrz, h, hs, Option.bind_some, h1], h2⟩
theorem sb_if {cc : En → Option Bool} {pc : Option Bool} {p' : Option R} (hc : BX cc env pc) (ha : SB (sCons a rest) env p Z) (hb : SB (sCons b rest) env p' Z) : SB (sCons (sIf cc a b) rest) env (xif pc p p') Z := fun r e => by
  obtain ⟨x, ex, e⟩ := bs e
  cases x with
  | true =>
    obtain ⟨o, h1, h2⟩ := ha r (by simpa using e)
    exact ⟨o, by simpa [sCons, sIf, hc _ ex] using h1, h2⟩
  | false =>
    obtain ⟨o, h1, h2⟩ := hb r (by simpa using e)
    exact ⟨o, by simpa [sCons, sIf, hc _ ex] using h1, h2⟩
theorem sb_ifJ {cc : En → Option Bool} {pc : Option Bool} {S J : Type} {enc : S → J → En} {pa pb : Option S} {k : S → Option R} (hc : BX cc env pc) (ha : SB a env pa (ZI enc)) (hb : SB b env pb (ZI enc)) (hk : ∀ s j, SB rest (enc s j) (k s) Z) : SB (sCons (sIf cc a b) rest) env ((xif pc pa pb).bind k) Z := fun r e => by
  obtain ⟨s, es, e⟩ := bs e
  obtain ⟨x, ex, es⟩ := bs es
  cases x with
  | true =>
    obtain ⟨o, h1, j, rfl⟩ := ha s (by simpa using es)
    obtain ⟨o, h3, h4⟩ := hk s j r e
    exact ⟨o, by simp [sCons, sIf, hc _ ex, h1, h3], h4⟩
  | false =>
    obtain ⟨o, h1, j, rfl⟩ := hb s (by simpa using es)
    obtain ⟨o, h3, h4⟩ := hk s j r e
    exact ⟨o, by simp [sCons, sIf, hc _ ex, h1, h3], h4⟩
end
theorem map_erase {α β : Type} {f : α → β} : ∀ {xs : List α} {w : Nat}, (xs.map f).eraseIdx w = (xs.eraseIdx w).map f
  | [], _ => rfl
  | _ :: _, 0 => rfl
  | _ :: r, w + 1 => by simp [map_erase (xs := r)]
def apd (x : List D) (y : D) : Option (List D) := if x.length < LIM then some (x ++ [y]) else none
def insL (x : List D) (k y : D) : Option (List D) := (intD? k).bind fun k => if 0 ≤ k ∧ k < 2 ^ 62 ∧ x.length < LIM then some (x.take k.toNat ++ [y] ++ x.drop k.toNat) else none
def setL (x : List D) (k y : D) : Option (List D) := (intD? k).bind fun k => (ixN x.length k).map fun j => x.set j y
def popL (x : List D) (k : Int) : Option (List D × D) := (ixN x.length k).bind fun j => (x[j]?).map fun d => (x.eraseIdx j, d)
def popK (x : List D) (k : D) : Option (List D × D) := (intD? k).bind fun k => if -(2 ^ 62) ≤ k ∧ k < 2 ^ 62 then popL x k else none
def set2 (x : List (List D)) (k l y : D) : Option (List (List D)) := (intD? k).bind fun k => (ixN x.length k).bind fun j => (x[j]?).bind fun r => (setL r l y).map fun r => x.set j r
def putP (x : List (Key × D)) (k y : D) : Option (List (Key × D)) := (keyOf? k).bind fun k => if x.length < LIM then some (putD x k y) else none
section
variable {R : Type} {env : En} {rest : SM} {Z : R → Out → Prop} {p : Option R} {me mi mk : EM} {q q2 q3 : Option D} {i j : Nat}
/-- the slot's tree: what it strips to, and what it wraps -/
theorem upd_at {t : T} {x : List D} (h : env[i]? = some (some t)) (ht : t.strip = own1 x) {f : List T → Option (List T)} {x' : List D} (hf : f (x.map T.p) = some (x'.map T.p)) : updAt (pVar i) f env = some (env.set i (some (t.wrap (own1 x')))) := by
  have hs : slotT env i = some t := by simp [slotT, h]
  simp only [updAt, pVar, hs, Option.map_some, Option.bind_some, T.at, T.put, ht, own1, hf]
theorem sb_append {t : T} {x : List D} {k : List D → Option R} (h : env[i]? = some (some t)) (ht : t.strip = own1 x) (he : EX me env q) (hk : ∀ x', SB rest (env.set i (some (t.wrap (own1 x')))) (k x') Z) : SB (sCons (sAppend (pVar i) me) rest) env (q.bind fun y => (apd x y).bind k) Z := fun r e => by
  obtain ⟨y, ey, e⟩ := bs e
  obtain ⟨x', ex, e⟩ := bs e
  obtain ⟨o, h1, h2⟩ := hk x' r e
  unfold apd at ex
  split at ex
  · rename_i hl
    simp only [Option.some.injEq] at ex
    subst ex
    refine ⟨o, ?_, h2⟩
    simp only [sCons, sAppend, he y ey, Option.bind_some, ev_pure]
    rw [upd_at h ht (x' := x ++ [y]) (by rw [if_pos (by rw [List.length_map]; exact hl)]; simp)]
    simpa using h1
  · simp at ex
theorem sb_insert {t : T} {x : List D} {k : List D → Option R} (h : env[i]? = some (some t)) (ht : t.strip = own1 x) (hi : EX mi env q) (he : EX me env q2) (hk : ∀ x', SB rest (env.set i (some (t.wrap (own1 x')))) (k x') Z) : SB (sCons (sInsert (pVar i) mi me) rest) env (q.bind fun l => q2.bind fun y => (insL x l y).bind k) Z := fun r e => by
  obtain ⟨l, el, e⟩ := bs e
  obtain ⟨y, ey, e⟩ := bs e
  obtain ⟨x', ex, e⟩ := bs e
  obtain ⟨o, h1, h2⟩ := hk x' r e
  cases l with
  | int l =>
    simp only [insL, intD?, Option.bind_some] at ex
    split at ex
    · rename_i hl
      simp only [Option.some.injEq] at ex
      subst ex
      refine ⟨o, ?_, h2⟩
      simp only [sCons, sInsert, hi _ el, he _ ey, Option.bind_some, ev_int, ev_pure]
      rw [upd_at h ht (x' := x.take l.toNat ++ [y] ++ x.drop l.toNat) (by unfold insN; rw [if_pos (by rw [List.length_map]; exact hl)]; simp)]
      simpa using h1
    · simp at ex
  | _ => simp [insL, intD?] at ex
theorem sb_setIx {t : T} {x : List D} {k : List D → Option R} (h : env[i]? = some (some t)) (ht : t.strip = own1 x) (hi : EX mi env q) (he : EX me env q2) (hk : ∀ x', SB rest (env.set i (some (t.wrap (own1 x')))) (k x') Z) : SB (sCons (sSetIx (pVar i) mi me) rest) env (q.bind fun l => q2.bind fun y => (setL x l y).bind k) Z := fun r e => by
  obtain ⟨l, el, e⟩ := bs e
  obtain ⟨y, ey, e⟩ := bs e
  obtain ⟨x', ex, e⟩ := bs e
  obtain ⟨o, h1, h2⟩ := hk x' r e
  cases l with
  | int l =>
    simp only [setL, intD?, Option.bind_some, Option.map_eq_some_iff] at ex
    obtain ⟨w, ew, rfl⟩ := ex
    refine ⟨o, ?_, h2⟩
    simp only [sCons, sSetIx, hi _ el, he _ ey, Option.bind_some, ev_int, ev_pure]
    rw [upd_at h ht (x' := x.set w y) (by unfold setN; rw [List.length_map, ew]; simp [List.map_set])]
    simpa using h1
  | _ => simp [setL, intD?] at ex
theorem upd_at2 {t : T} {x : List (List D)} {xi : EM} {w : Nat} {l : Int} {row : List D} (h : env[i]? = some (some t)) (ht : t.strip = own2 x) (hx : xi env = some (.p (.int l))) (hw : ixN x.length l = some w) (hr : x[w]? = some row) {f : List T → Option (List T)} {x' : List D} (hf : f (row.map T.p) = some (x'.map T.p)) :
    updAt (pIx (pVar i) xi) f env = some (env.set i (some (t.wrap (own2 (x.set w x'))))) := by
  have hs : slotT env i = some t := by simp [slotT, h]
  have e1 : pIx (pVar i) xi env = some (i, [.ix w]) := by
    simp only [pIx, pVar, hs, Option.map_some, Option.bind_some, hx, ev_int, T.at, ht, own2, ev_own, List.length_map, hw, List.nil_append]
  have e2 : (x.map own1)[w]? = some (own1 row) := by simp [hr]
  simp only [updAt, e1, hs, Option.bind_some, T.at, T.put, ht, own2, e2]
  simp only [own1, strip_ml, hf, Option.bind_some, Option.map_some, wrap_ml, List.map_set]
theorem sb_set2 {t : T} {x : List (List D)} {xi : EM} {k : List (List D) → Option R} (h : env[i]? = some (some t)) (ht : t.strip = own2 x) (hx : EX xi env q3) (hi : EX mi env q) (he : EX me env q2) (hk : ∀ x', SB rest (env.set i (some (t.wrap (own2 x')))) (k x') Z) : SB (sCons (sSetIx (pIx (pVar i) xi) mi me) rest) env (q3.bind fun a => q.bind fun l => q2.bind fun y => (set2 x a l y).bind k) Z := fun r e => by
  obtain ⟨a, ea, e⟩ := bs e
  obtain ⟨l, el, e⟩ := bs e
  obtain ⟨y, ey, e⟩ := bs e
  obtain ⟨x', ex, e⟩ := bs e
  obtain ⟨o, h1, h2⟩ := hk x' r e
  cases a with
  | int a =>
    simp only [set2, intD?, Option.bind_some] at ex
    obtain ⟨w, ew, ex⟩ := bs ex
    obtain ⟨row, er, ex⟩ := bs ex
    simp only [Option.map_eq_some_iff] at ex
    obtain ⟨r', er', rfl⟩ := ex
    cases l with
    | int l =>
      simp only [setL, intD?, Option.bind_some, Option.map_eq_some_iff] at er'
      obtain ⟨w2, ew2, rfl⟩ := er'
      refine ⟨o, ?_, h2⟩
      simp only [sCons, sSetIx, hi _ el, he _ ey, Option.bind_some, ev_int, ev_pure]
      rw [upd_at2 h ht (hx _ ea) ew er (x' := row.set w2 y) (by unfold setN; rw [List.length_map, ew2]; simp [List.map_set])]
      simpa using h1
    | _ => simp [setL, intD?] at er'
  | _ => simp [set2, intD?] at ex
theorem popN_at {t : T} {x : List D} (h : env[i]? = some (some t)) (ht : t.strip = own1 x) {l : Int} {x' : List D} {d : D} (hp : popL x l = some (x', d)) : popN (pVar i) l env = some (env.set i (some (t.wrap (own1 x'))), d) := by
  obtain ⟨w, ew, hp⟩ := bs hp
  simp only [Option.map_eq_some_iff] at hp
  obtain ⟨y, ey, hp⟩ := hp
  simp only [Prod.mk.injEq] at hp
  obtain ⟨rfl, rfl⟩ := hp
  have hs : slotT env i = some t := by simp [slotT, h]
  have e2 : (x.map T.p)[w]? = some (.p y) := by simp [ey]
  simp only [popN, pVar, hs, Option.map_some, Option.bind_some, T.at, T.put, ht, own1, List.length_map, ew, e2, ev_pure, map_erase]
theorem sb_setPop {t : T} {x : List D} {k : List D × D → Option R} (h : env[i]? = some (some t)) (ht : t.strip = own1 x) (hk : ∀ xd, SB rest ((env.set i (some (t.wrap (own1 xd.1)))).set j (some (.p xd.2))) (k xd) Z) : SB (sCons (sSetPop j (pVar i)) rest) env ((popL x (-1)).bind k) Z := fun r e => by
  obtain ⟨⟨x', d⟩, ex, e⟩ := bs e
  obtain ⟨o, h1, h2⟩ := hk (x', d) r e
  exact ⟨o, by simp only [sCons, sSetPop, popN_at h ht ex, Option.map_some, Option.bind_some, h1], h2⟩
theorem sb_popAt {t : T} {x : List D} {k : List D × D → Option R} (h : env[i]? = some (some t)) (ht : t.strip = own1 x) (hi : EX mi env q) (hk : ∀ xd, SB rest (env.set i (some (t.wrap (own1 xd.1)))) (k xd) Z) : SB (sCons (sPopAt (pVar i) mi) rest) env (q.bind fun l => (popK x l).bind k) Z := fun r e => by
  obtain ⟨l, el, e⟩ := bs e
  obtain ⟨⟨x', d⟩, ex, e⟩ := bs e
  obtain ⟨o, h1, h2⟩ := hk (x', d) r e
  cases l with
  | int l =>
    simp only [popK, intD?, Option.bind_some] at ex
    split at ex
    · rename_i hl
      obtain ⟨w, ew, ex⟩ := bs ex
      simp only [Option.map_eq_some_iff] at ex
      obtain ⟨y, ey, ex⟩ := ex
      simp only [Prod.mk.injEq] at ex
      obtain ⟨rfl, rfl⟩ := ex
      refine ⟨o, ?_, h2⟩
      simp only [sCons, sPopAt, hi _ el, Option.bind_some, ev_int, hl, and_self, if_true]
      rw [upd_at h ht (x' := x.eraseIdx w) (by rw [List.length_map, ew]; simp [map_erase])]
      simpa using h1
    · simp at ex
  | _ => simp [popK, intD?] at ex
theorem sb_dput {t : T} {x : List (Key × D)} {k : List (Key × D) → Option R} (h : env[i]? = some (some t)) (ht : t.strip = .md x) (hi : EX mk env q) (he : EX me env q2) (hk : ∀ x', SB rest (env.set i (some (t.wrap (.md x')))) (k x') Z) : SB (sCons (M.sDPut i mk me) rest) env (q2.bind fun y => q.bind fun l => (putP x l y).bind k) Z := fun r e => by
  obtain ⟨y, ey, e⟩ := bs e
  obtain ⟨l, el, e⟩ := bs e
  obtain ⟨x', ex, e⟩ := bs e
  obtain ⟨o, h1, h2⟩ := hk x' r e
  obtain ⟨kk, ek, ex⟩ := bs ex
  split at ex
  · rename_i hl
    simp only [Option.some.injEq] at ex
    subst ex
    have hs : slotT env i = some t := by simp [slotT, h]
    refine ⟨o, ?_, h2⟩
    simp only [sCons, M.sDPut, hi _ el, he _ ey, Option.bind_some, ev_pure, ek, hs, ht, hl, if_true]
    simpa using h1
  · simp at ex
end
def fold {S : Type} (step : S → D → Option S) : List D → S → Option S
  | [], s => some s
  | d :: r, s => (step s d).bind fun s => fold step r s
def foldC {S ρ : Type} (step : S → D → Option (Ct S ρ)) : List D → S → Option (Ct S ρ)
  | [], s => some (.nx s)
  | d :: r, s => (step s d).bind fun c => match c with
    | .nx s => foldC step r s
    | .bk s => some (.nx s)
    | .rt d => some (.rt d)
def whl {S : Type} (c : S → Option Bool) (step : S → Option S) : Nat → S → Option S
  | 0, _ => none
  | n + 1, s => xif (c s) ((step s).bind fun s => whl c step n s) (some s)
/-- behind a loop that may return -/
def aft {S R ρ : Type} (p : Option (Ct S ρ)) (kr : ρ → R) (k : S → Option R) : Option R := p.bind fun c => match c with
  | .nx s => k s
  | .bk _ => none
  | .rt d => some (kr d)
section
variable {R S J : Type} {env : En} {rest mb : SM} {Z : R → Out → Prop} {mi : En → Option (List D)} {il : Option (List D)} {g : D → En → Option En} {enc : S → J → En} {ρ : Type} {RT : ρ → T → Prop}
theorem for_run {step : S → D → Option S} (hb : ∀ s j d r, step s d = some r → ∃ e1 o, g d (enc s j) = some e1 ∧ mb e1 = some o ∧ ZN enc r o) : ∀ (ds : List D) (s : S) (j : J) (s' : S), fold step ds s = some s' → ∃ j', forRun g mb ds (enc s j) = some (.nx (enc s' j'))
  | [], s, j, s', e => by simp only [fold, Option.some.injEq] at e; subst e; exact ⟨j, rfl⟩
  | d :: r, s, j, s', e => by
    obtain ⟨s1, e1, e⟩ := bs e
    obtain ⟨en, o, h1, h2, j1, h3⟩ := hb s j d s1 e1
    obtain ⟨j', h4⟩ := for_run hb r s1 j1 s' e
    refine ⟨j', ?_⟩
    rcases h3 with rfl | rfl <;> simp only [forRun, h1, h2, Option.bind_some, h4]
theorem sb_for {step : S → D → Option S} {s0 : S} {j0 : J} {k : S → Option R} (hi : IX mi env il) (h0 : env = enc s0 j0) (hb : ∀ s j d r, step s d = some r → ∃ e1 o, g d (enc s j) = some e1 ∧ mb e1 = some o ∧ ZN enc r o) (hk : ∀ s j, SB rest (enc s j) (k s) Z) : SB (sCons (sFor mi g mb) rest) env (il.bind fun ds => (fold step ds s0).bind k) Z := fun r e => by
  obtain ⟨ds, ed, e⟩ := bs e
  obtain ⟨s, es, e⟩ := bs e
  subst h0
  obtain ⟨j, h1⟩ := for_run hb ds s0 j0 s es
  obtain ⟨o, h2, h3⟩ := hk s j r e
  exact ⟨o, by simp only [sCons, sFor, hi ds ed, Option.bind_some, h1, h2], h3⟩
theorem stepN {step : S → D → Option S} {i : Nat} (hb : ∀ s j d, SB mb ((enc s j).set i (some (.p d))) (step s d) (ZN enc)) : ∀ s j d r, step s d = some r → ∃ e1 o, gNm i d (enc s j) = some e1 ∧ mb e1 = some o ∧ ZN enc r o := fun s j d r e => by
  obtain ⟨o, h1, h2⟩ := hb s j d r e
  exact ⟨_, o, rfl, h1, h2⟩
theorem step2 {step : S → D → D → Option S} {i i2 : Nat} (hb : ∀ s j x y, SB mb (((enc s j).set i (some (.p x))).set i2 (some (.p y))) (step s x y) (ZN enc)) : ∀ s j d r, (un2 d fun x y => step s x y) = some r → ∃ e1 o, g2 i i2 d (enc s j) = some e1 ∧ mb e1 = some o ∧ ZN enc r o := fun s j d r e => by
  obtain ⟨x, y, rfl, e⟩ := un2_eq e
  obtain ⟨o, h1, h2⟩ := hb s j x y r e
  exact ⟨_, o, rfl, h1, h2⟩
theorem for_runC {step : S → D → Option (Ct S ρ)} (hb : ∀ s j d r, step s d = some r → ∃ e1 o, g d (enc s j) = some e1 ∧ mb e1 = some o ∧ ZC RT enc r o) : ∀ (ds : List D) (s : S) (j : J) (r : Ct S ρ), foldC step ds s = some r → match r with
    | .nx s' => ∃ j', forRun g mb ds (enc s j) = some (.nx (enc s' j'))
    | .bk _ => True
    | .rt d => ∃ t, forRun g mb ds (enc s j) = some (.rt t) ∧ RT d t
  | [], s, j, r, e => by simp only [foldC, Option.some.injEq] at e; subst e; exact ⟨j, rfl⟩
  | d :: r, s, j, c, e => by
    obtain ⟨c1, e1, e⟩ := bs e
    obtain ⟨en, o, h1, h2, h3⟩ := hb s j d c1 e1
    cases c1 with
    | nx s1 =>
      obtain ⟨j1, h3⟩ := h3
      have ih := for_runC hb r s1 j1 c e
      have e2 : forRun g mb (d :: r) (enc s j) = forRun g mb r (enc s1 j1) := by
        rcases h3 with rfl | rfl <;> simp only [forRun, h1, h2, Option.bind_some]
      rw [e2]; exact ih
    | bk s1 =>
      obtain ⟨j1, rfl⟩ := h3
      simp only [Option.some.injEq] at e
      subst e
      exact ⟨j1, by simp only [forRun, h1, h2, Option.bind_some]⟩
    | rt d1 =>
      obtain ⟨t, rfl, h3⟩ := h3
      simp only [Option.some.injEq] at e
      subst e
      exact ⟨t, by simp only [forRun, h1, h2, Option.bind_some], h3⟩
theorem sb_forC {step : S → D → Option (Ct S ρ)} {s0 : S} {j0 : J} {kr : ρ → R} {k : S → Option R} (hi : IX mi env il) (h0 : env = enc s0 j0) (hb : ∀ s j d r, step s d = some r → ∃ e1 o, g d (enc s j) = some e1 ∧ mb e1 = some o ∧ ZC RT enc r o) (hr : ∀ d t, RT d t → Z (kr d) (.rt t)) (hk : ∀ s j, SB rest (enc s j) (k s) Z) : SB (sCons (sFor mi g mb) rest) env (il.bind fun ds => aft (foldC step ds s0) kr k) Z := fun r e => by
  obtain ⟨ds, ed, e⟩ := bs e
  obtain ⟨c, es, e⟩ := bs e
  subst h0
  have h1 := for_runC hb ds s0 j0 c es
  cases c with
  | nx s =>
    obtain ⟨j, h1⟩ := h1
    obtain ⟨o, h2, h3⟩ := hk s j r e
    exact ⟨o, by simp only [sCons, sFor, hi ds ed, Option.bind_some, h1, h2], h3⟩
  | bk s => simp at e
  | rt d =>
    obtain ⟨t, h1, h2⟩ := h1
    simp only [Option.some.injEq] at e
    subst e
    exact ⟨_, by simp only [sCons, sFor, hi ds ed, Option.bind_some, h1], hr d t h2⟩
theorem stepNC {step : S → D → Option (Ct S ρ)} {i : Nat} (hb : ∀ s j d, SB mb ((enc s j).set i (some (.p d))) (step s d) (ZC RT enc)) : ∀ s j d r, step s d = some r → ∃ e1 o, gNm i d (enc s j) = some e1 ∧ mb e1 = some o ∧ ZC RT enc r o := fun s j d r e => by
  obtain ⟨o, h1, h2⟩ := hb s j d r e
  exact ⟨_, o, rfl, h1, h2⟩
theorem step2C {step : S → D → D → Option (Ct S ρ)} {i i2 : Nat} (hb : ∀ s j x y, SB mb (((enc s j).set i (some (.p x))).set i2 (some (.p y))) (step s x y) (ZC RT enc)) : ∀ s j d r, (un2 d fun x y => step s x y) = some r → ∃ e1 o, g2 i i2 d (enc s j) = some e1 ∧ mb e1 = some o ∧ ZC RT enc r o := fun s j d r e => by
  obtain ⟨x, y, rfl, e⟩ := un2_eq e
  obtain ⟨o, h1, h2⟩ := hb s j x y r e
  exact ⟨_, o, rfl, h1, h2⟩
theorem whl_run {c : En → Option Bool} {pc : S → Option Bool} {step : S → Option S} (hc : ∀ s j, BX c (enc s j) (pc s)) (hb : ∀ s j, SB mb (enc s j) (step s) (ZN enc)) : ∀ (n : Nat) (s : S) (j : J) (s' : S), whl pc step n s = some s' → ∃ j', whileRun c mb n (enc s j) = some (.nx (enc s' j'))
  | 0, _, _, _, e => by simp [whl] at e
  | n + 1, s, j, s', e => by
    obtain ⟨b, eb, e⟩ := bs e
    cases b with
    | true =>
      simp only [if_true] at e
      obtain ⟨s1, e1, e⟩ := bs e
      obtain ⟨o, h1, j1, h2⟩ := hb s j s1 e1
      obtain ⟨j', h3⟩ := whl_run hc hb n s1 j1 s' e
      refine ⟨j', ?_⟩
      rcases h2 with rfl | rfl <;> simp only [whileRun, hc s j _ eb, h1, h3, Option.bind_some, if_true]
    | false =>
      simp only [Bool.false_eq_true, if_false, Option.some.injEq] at e
      subst e
      exact ⟨j, by simp only [whileRun, hc s j _ eb, Option.bind_some, Bool.false_eq_true, if_false]⟩
theorem sb_whl {c : En → Option Bool} {pc : S → Option Bool} {step : S → Option S} {s0 : S} {j0 : J} {n : Nat} {k : S → Option R} (h0 : env = enc s0 j0) (hc : ∀ s j, BX c (enc s j) (pc s)) (hb : ∀ s j, SB mb (enc s j) (step s) (ZN enc)) (hk : ∀ s j, SB rest (enc s j) (k s) Z) : SB (sCons (sWhile n c mb) rest) env ((whl pc step n s0).bind k) Z := fun r e => by
  obtain ⟨s, es, e⟩ := bs e
  subst h0
  obtain ⟨j, h1⟩ := whl_run hc hb n s0 j0 s es
  obtain ⟨o, h2, h3⟩ := hk s j r e
  exact ⟨o, by simp only [sCons, sWhile, h1, Option.bind_some, h2], h3⟩
end
end N
namespace N
open PySem PySem.Spec PyProof.Rows L2 M

def xpair {α β : Type} (p : Option α) (q : Option β) : Option (α × β) := p.bind fun a => q.map fun b => (a, b)
section
variable {R : Type} {env : En} {rest mb : SM} {Z : R → Out → Prop} {me : EM} {q p : Option D} {as : List AI} {i : Nat}
end
def dctD? : D → Option (List (Key × D))
  | .dict ps => keysD ps
  | _ => none
def xdgetD (p q : Option D) : Option D := p.bind fun d => (dctD? d).bind fun x => xdget x q
theorem keysD_dD : ∀ x : List (Key × D), keysD (x.map fun p => (keyD p.1, p.2)) = some x
  | [] => rfl
  | (k, d) :: r => by simp only [List.map_cons, keysD, keyOf_keyD, keysD_dD r, Option.bind_some, Option.map_some]
theorem dct_dD (x : List (Key × D)) : dctD? (dD x) = some x := keysD_dD x
section
variable {R S J : Type} {env : En} {rest mb : SM} {Z : R → Out → Prop} {enc : S → J → En} {i tg : Nat} {js : List Nat} {x : List (Key × D)}
end
end N
namespace N
open PySem M
end N
namespace N
open PySem PySem.Spec PyProof.Rows L2 M

def xscut (ns : List Int) (a b : Option (Option Int)) : Option D := a.bind fun x => b.map fun y => .list (cutL (ns.map PyData.int) x y)
theorem e_scSlice {m1 : EM} {env : En} {lo hi : OM} {a b : Option (Option Int)} {ns : List Int} (h : EG T.sc m1 env (some ns)) (h1 : OX lo env a) (h2 : OX hi env b) : EX (mSlice m1 lo hi) env (xscut ns a b) := fun d e => by
  obtain ⟨y, ey, e⟩ := bs e
  rw [Option.map_eq_some_iff] at e
  obtain ⟨z, ez, rfl⟩ := e
  simp only [mSlice, h ns rfl, h1 y ey, h2 z ez, Option.bind_some, sliceT, T.seq?]
section
variable {S J ρ : Type} {enc : S → J → En} {mb : SM} {RT : ρ → T → Prop}
end
end N
namespace N
open PySem PySem.Spec PyProof.Rows L2 M

section
variable {m m1 m2 : EM} {env : En} {p q : Option D}
def xsortD (x : List (Key × D)) : Option D := (intKeys x).bind fun ns => if ns.length < 64 then some (.list ((sortI ns).map PyData.int)) else none
theorem e_sortD {x : List (Key × D)} {t : T} (h1 : m1 env = some t) (hd : t.dct? = some x) : EX (mCall sortedDT (aCons m1 aNil)) env (xsortD x) := fun d e => by
  simp only [xsortD, Option.bind_eq_some_iff] at e
  obtain ⟨ns, e1, e2⟩ := e
  split at e2
  · rename_i hz
    cases e2
    simp only [mCall, aCons, aNil, h1, Option.bind_some, Option.map_some, sortedDT, hd, e1, hz, if_true]
  · cases e2
theorem dctD_eq {d : D} {x : List (Key × D)} (h : dctD? d = some x) : (T.p d).dct? = some x := by
  cases d <;> simp [dctD?] at h
  exact h
def xdinD (p q : Option D) : Option D := p.bind fun d => (dctD? d).bind fun x => xdin x q
def xdninD (p q : Option D) : Option D := p.bind fun d => (dctD? d).bind fun x => xdnin x q
theorem e_dinD (h1 : EX m1 env p) (h2 : EX m2 env q) : EX (mOp dInT m2 m1) env (xdinD p q) := fun d e => by
  obtain ⟨a, ea, e⟩ := bs e
  obtain ⟨x, ex, e⟩ := bs e
  exact e_din (h1 a ea) (dctD_eq ex) h2 d e
theorem e_dninD (h1 : EX m1 env p) (h2 : EX m2 env q) : EX (mOp dNotInT m2 m1) env (xdninD p q) := fun d e => by
  obtain ⟨a, ea, e⟩ := bs e
  obtain ⟨x, ex, e⟩ := bs e
  exact e_dnin (h1 a ea) (dctD_eq ex) h2 d e
theorem f_nil2 : EG own2 (mLstF aNil) env (some []) := fun a e => by
  simp only [Option.some.injEq] at e; subst e
  rfl
end
def apd2 (x : List (List D)) (y : List D) : Option (List (List D)) := if x.length < LIM then some (x ++ [y]) else none
theorem sb_appendF {R : Type} {rest : SM} {env : En} {Z : R → Out → Prop} {i : Nat} {me : EM} {q : Option (List D)} {t : T} {x : List (List D)} {k : List (List D) → Option R} (h : env[i]? = some (some t)) (ht : t.strip = own2 x) (he : EG own1 me env q) (hk : ∀ x', SB rest (env.set i (some (t.wrap (own2 x')))) (k x') Z) : SB (sCons (sAppendF (pVar i) me) rest) env (q.bind fun y => (apd2 x y).bind k) Z := fun r e => by
  obtain ⟨y, ey, e⟩ := bs e
  obtain ⟨x', ex, e⟩ := bs e
  unfold apd2 at ex
  split at ex
  · rename_i hz
    cases ex
    obtain ⟨o, h1, h2⟩ := hk _ r e
    refine ⟨o, ?_, h2⟩
    have hu : updAt (pVar i) (fun ts => if ts.length < LIM then some (ts ++ [own1 y]) else none) env = some (env.set i (some (t.wrap (own2 (x ++ [y]))))) := by
      simp only [updAt, pVar, slotT, h, Option.join_some, Option.map_some, Option.bind_some, T.at, ht, own2, List.length_map, hz, if_true, T.put, List.map_append, List.map_cons, List.map_nil]
    simp only [sCons, sAppendF, he y ey, Option.bind_some, hu, Option.map_some]
    exact h1
  · cases ex
end N
namespace N
open PySem PySem.Spec PyProof.Rows L2 M

def owO : D → T
  | .list xs => own1 xs
  | d => .p d
def owt : List Bool → List D → List T
  | _, [] => []
  | [], d :: ds => .p d :: owt [] ds
  | k :: ks, d :: ds => (if k then owO d else .p d) :: owt ks ds
def owT (ks : List Bool) : D → T
  | .tuple ds => .tp (owt ks ds)
  | d => .p d
theorem snap_O (d : D) : (owO d).snap = some d := by
  cases d with
  | list xs => exact snap_own1 xs
  | _ => simp [owO, T.snap]
theorem snap_owt : ∀ (ks : List Bool) (ds : List D), snaps (owt ks ds) = some ds
  | _, [] => by simp [owt, snaps]
  | [], d :: ds => by simp [owt, snaps, T.snap, snap_owt [] ds]
  | k :: ks, d :: ds => by cases k <;> simp [owt, snaps, T.snap, snap_O, snap_owt ks ds]
theorem snap_T (ks : List Bool) (d : D) : (owT ks d).snap = some d := by
  cases d with
  | tuple ds => simp [owT, T.snap, snap_owt]
  | _ => simp [owT, T.snap]
def RTO (d : D) (t : T) : Prop := t = owO d
def RTW (ks : List Bool) (d : D) (t : T) : Prop := t = owT ks d
theorem FR.ow {x : Option T} {p : Option D} (h : FR RTO x p) : FR RTs x p := fun d e => by
  obtain ⟨t, h1, h2⟩ := h d e
  have h2 : t = owO d := h2
  subst h2
  exact ⟨_, h1, snap_O d⟩
theorem FR.ws {ks : List Bool} {x : Option T} {p : Option D} (h : FR (RTW ks) x p) : FR RTs x p := fun d e => by
  obtain ⟨t, h1, h2⟩ := h d e
  have h2 : t = owT ks d := h2
  subst h2
  exact ⟨_, h1, snap_T ks d⟩
section
variable {env : En} {m m1 m2 m3 m4 : EM} {fn : List T → Option T} {α β γ : Type} {τ1 : α → T} {τ2 : β → T} {τ3 : γ → T} {p1 : Option α} {p2 : Option β} {p3 : Option γ} {τ : D → T}
end
section
variable {env env2 : En} {m : EM} {mb : En → Option Bool} {p : Option D} {pb : Option Bool}
@[simp] theorem view_p {d : D} : (T.p d).view = some (.p d) := by simp [T.view, T.snap]
@[simp] theorem view_sc {ns : List Int} : (T.sc ns).view = some (.sc ns) := by simp [T.view]
@[simp] theorem view_o1 {xs : List D} : (own1 xs).view = some (.p (.list xs)) := by
  have := snap_own1 xs
  unfold own1 at this ⊢
  simp [T.view, this]
@[simp] theorem view_o2 {xs : List (List D)} : (own2 xs).view = some (.p (.list (xs.map PyData.list))) := by
  have := snap_own2 xs
  unfold own2 at this ⊢
  simp [T.view, this]
@[simp] theorem view_O {d : D} : (owO d).view = some (.p d) := by
  cases d with
  | list xs => exact view_o1
  | _ => simp [owO]
@[simp] theorem view_T {ks : List Bool} {d : D} : (owT ks d).view = some (.p d) := by
  cases d with
  | tuple ds =>
    have := snap_T ks (.tuple ds)
    simp only [owT] at this ⊢
    simp [T.view, this]
  | _ => simp [owT]
@[simp] theorem view_m {x : Option D} : (x.map T.p).bind T.view = x.map T.p := by cases x <;> simp
end
section
variable {R : Type} {env : En} {rest : SM} {Z : R → Out → Prop} {me : EM} {q : Option D} {i j l n : Nat}
end
end N
namespace N
open PySem PySem.Spec PyProof.Rows L2 M

def EL (m : EM) (env : En) (p : Option D) : Prop := ∀ d, p = some d → ∃ t, m env = some t ∧ t.lent = some (.p d)
section
variable {env : En} {m m1 m2 m3 : EM} {fn : List T → Option T} {p q1 q2 q3 : Option D}
theorem EG.l (h : EX m env p) : EL m env p := fun d e => ⟨_, h d e, rfl⟩
theorem EW.l (h : EW m env p) : EL m env p := fun d e => by
  obtain ⟨t, e1, w⟩ := h d e
  refine ⟨t, e1, ?_⟩
  cases w with
  | p => rfl
  | o xs => simp [own1, T.lent, pures_map]
end
end N
namespace N
open PySem PySem.Spec PyProof.Rows L2 M
end N
namespace N
open PySem PySem.Spec PyProof.Rows L2 M
def izipM (p q : Option D) : Option (List D) := p.bind fun a => q.bind fun b => match a, b with
  | .list xs, .list ys => some (zipD xs ys)
  | .tuple xs, .tuple ys => some (zipD xs ys)
  | .tuple xs, .list ys => some (zipD xs ys)
  | _, _ => none
theorem i_zipM {m1 m2 : EM} {env : En} {p q : Option D} (h : EX m1 env p) (h2 : EX m2 env q) : IX (iZpM m1 m2) env (izipM p q) := fun ds e => by
  obtain ⟨a, ea, e⟩ := bs e
  obtain ⟨b, eb, e⟩ := bs e
  simp only [iZpM, iOr, iZpTL, iZp, h _ ea, h2 _ eb, Option.bind_some]
  cases a <;> cases b <;> simp at e <;> subst e <;> simp [T.fzl?, T.ptup?]
end N
namespace N
open PySem PySem.Spec PyProof.Rows L2 M
def stepP (t : T) (k : D) (π : List Stp) : Option (List Stp) := (intD? k).bind fun k => (T.at π t).bind fun u => u.own?.bind fun ts => (ixN ts.length k).map fun j => π ++ [.ix j]
def PX (mp : PMm) (env : En) (i : Nat) (p : Option (List Stp)) : Prop := ∀ π, p = some π → mp env = some (i, π)
def updP (t : T) (f : List T → Option (List T)) (π : List Stp) : Option T := (T.at π t).bind fun u => match u with
  | .ml ts => (f ts).bind fun ts' => T.put π t (.ml ts')
  | _ => none
def popP (t : T) (k : Int) (π : List Stp) : Option (T × D) := (T.at π t).bind fun u => match u with
  | .ml ts => (ixN ts.length k).bind fun j => (ts[j]?).bind fun y => y.pure?.bind fun d => (T.put π t (.ml (ts.eraseIdx j))).map fun t' => (t', d)
  | _ => none
def inT' (k y : D) (ts : List T) : Option (List T) := (intD? k).bind fun k => insN ts k y
def seT (k y : D) (ts : List T) : Option (List T) := (intD? k).bind fun k => setN ts k y
section
variable {R : Type} {env : En} {rest a : SM} {Z : R → Out → Prop} {p : Option (List Stp)} {me mi : EM} {q q2 : Option D} {i j : Nat} {t : T} {mp : PMm}
theorem p_var (h : env[i]? = some (some t)) : PX (pVar i) env i (some []) := fun π e => by
  simp only [Option.some.injEq] at e; subst e
  simp [pVar, slotT, h]
theorem p_ix (h : env[i]? = some (some t)) (hp : PX mp env i p) (hk : EX mi env q) : PX (pIx mp mi) env i (p.bind fun π => q.bind fun k => stepP t k π) := fun π e => by
  obtain ⟨π0, e0, e⟩ := bs e
  obtain ⟨k, ek, e⟩ := bs e
  obtain ⟨n, en, e⟩ := bs e
  cases k <;> simp [intD?] at en
  subst en
  have hs : slotT env i = some t := by simp [slotT, h]
  obtain ⟨u, eu, e⟩ := bs e
  obtain ⟨ts, et, e⟩ := bs e
  simp only [Option.map_eq_some_iff] at e
  obtain ⟨w, ew, rfl⟩ := e
  simp only [pIx, hp π0 e0, hk _ ek, Option.bind_some, ev_int, hs, eu, et, ew, Option.map_some]
theorem upd_p {f : List T → Option (List T)} {π : List Stp} {t' : T} (h : env[i]? = some (some t)) (hp : mp env = some (i, π)) (hu : updP t f π = some t') : updAt mp f env = some (env.set i (some t')) := by
  have hs : slotT env i = some t := by simp [slotT, h]
  obtain ⟨u, eu, hu⟩ := bs hu
  cases u <;> simp at hu
  obtain ⟨ts', e1, e2⟩ := bs hu
  simp only [updAt, hp, Option.bind_some, hs, eu, e1, e2, Option.map_some]
theorem sb_insertT {k : T → Option R} (h : env[i]? = some (some t)) (hp : PX mp env i p) (hi : EX mi env q) (he : EX me env q2) (hk : ∀ t', SB rest (env.set i (some t')) (k t') Z) : SB (sCons (sInsert mp mi me) rest) env (p.bind fun π => q.bind fun l => q2.bind fun y => (updP t (inT' l y) π).bind k) Z := fun r e => by
  obtain ⟨π, eπ, e⟩ := bs e
  obtain ⟨l, el, e⟩ := bs e
  obtain ⟨y, ey, e⟩ := bs e
  obtain ⟨t', et, e⟩ := bs e
  obtain ⟨o, h1, h2⟩ := hk t' r e
  refine ⟨o, ?_, h2⟩
  cases l with
  | int l =>
    have := upd_p h (hp π eπ) et
    unfold inT' at this
    simp only [intD?, Option.bind_some] at this
    simp only [sCons, sInsert, hi _ el, he _ ey, Option.bind_some, ev_int, ev_pure]
    rw [this]
    simpa using h1
  | _ =>
    obtain ⟨u, eu, et⟩ := bs et
    cases u <;> simp [inT', intD?] at et
theorem sb_setIxT {k : T → Option R} (h : env[i]? = some (some t)) (hp : PX mp env i p) (hi : EX mi env q) (he : EX me env q2) (hk : ∀ t', SB rest (env.set i (some t')) (k t') Z) : SB (sCons (sSetIx mp mi me) rest) env (p.bind fun π => q.bind fun l => q2.bind fun y => (updP t (seT l y) π).bind k) Z := fun r e => by
  obtain ⟨π, eπ, e⟩ := bs e
  obtain ⟨l, el, e⟩ := bs e
  obtain ⟨y, ey, e⟩ := bs e
  obtain ⟨t', et, e⟩ := bs e
  obtain ⟨o, h1, h2⟩ := hk t' r e
  refine ⟨o, ?_, h2⟩
  cases l with
  | int l =>
    have := upd_p h (hp π eπ) et
    unfold seT at this
    simp only [intD?, Option.bind_some] at this
    simp only [sCons, sSetIx, hi _ el, he _ ey, Option.bind_some, ev_int, ev_pure]
    rw [this]
    simpa using h1
  | _ =>
    obtain ⟨u, eu, et⟩ := bs et
    cases u <;> simp [seT, intD?] at et
def popPK (t : T) (l : D) (π : List Stp) : Option (T × D) := (intD? l).bind fun l => if -(2 ^ 62) ≤ l ∧ l < 2 ^ 62 then popP t l π else none
theorem pop_p {π : List Stp} {l : Int} {x : T × D} (h : env[i]? = some (some t)) (hp : mp env = some (i, π)) (hu : popP t l π = some x) : popN mp l env = some (env.set i (some x.1), x.2) := by
  have hs : slotT env i = some t := by simp [slotT, h]
  obtain ⟨u, eu, hu⟩ := bs hu
  cases u <;> simp at hu
  rename_i ts
  obtain ⟨w, ew, hu⟩ := bs hu
  obtain ⟨y, ey, hu⟩ := bs hu
  obtain ⟨d, ed, hu⟩ := bs hu
  simp only [Option.map_eq_some_iff] at hu
  obtain ⟨t', e1, rfl⟩ := hu
  simp only [popN, hp, Option.bind_some, hs, eu, ew, ey, ed, e1, Option.map_some]
theorem sb_setPopAtT {k : T × D → Option R} (h : env[i]? = some (some t)) (hp : PX mp env i p) (hi : EX mi env q) (hk : ∀ x, SB rest ((env.set i (some x.1)).set j (some (.p x.2))) (k x) Z) : SB (sCons (sSetPopAt j mp mi) rest) env (p.bind fun π => q.bind fun l => (popPK t l π).bind k) Z := fun r e => by
  obtain ⟨π, eπ, e⟩ := bs e
  obtain ⟨l, el, e⟩ := bs e
  obtain ⟨x, ex, e⟩ := bs e
  obtain ⟨o, h1, h2⟩ := hk x r e
  refine ⟨o, ?_, h2⟩
  cases l with
  | int l =>
    simp only [popPK, intD?, Option.bind_some] at ex
    split at ex
    · rename_i hl
      simp only [sCons, sSetPopAt, hi _ el, Option.bind_some, ev_int, hl, and_self, if_true, pop_p h (hp π eπ) ex, Option.map_some, h1]
    · cases ex
  | _ => simp [popPK, intD?] at ex
def w1D : T → Option D
  | .p d => some d
  | .ml us => (pures us).map PyData.list
  | _ => none
theorem pures_eq : ∀ {us : List T} {ds : List D}, pures us = some ds → us = ds.map T.p
  | [], ds, e => by simp [pures] at e; subst e; rfl
  | u :: r, ds, e => by
    simp only [pures, Option.bind_eq_some_iff, Option.map_eq_some_iff] at e
    obtain ⟨d, e1, es, e2, rfl⟩ := e
    rw [pure_eq e1, pures_eq e2]; rfl
theorem w1D_w {u : T} {d : D} (h : w1D u = some d) : W1 u d := by
  cases u <;> simp [w1D] at h
  · subst h; exact .p _
  · obtain ⟨ds, e, rfl⟩ := h
    rw [pures_eq e]; exact .o ds
def xrow (t : T) (q : Option D) : Option D := q.bind fun k => (idxT t.strip (.p k)).bind w1D
theorem e_rowT (h : env[i]? = some (some t)) (hk : EX mi env q) : EW (mOp idxT (mVar i) mi) env (xrow t q) := fun d e => by
  obtain ⟨k, ek, e⟩ := bs e
  obtain ⟨u, eu, e⟩ := bs e
  exact ⟨u, by simp only [mOp, mVar, h, Option.join_some, Option.map_some, Option.bind_some, hk k ek, eu], w1D_w e⟩
def xlenT (t : T) : Option D := (lenT [t.strip]).bind T.pure?
theorem e_lenT (h : env[i]? = some (some t)) : EX (mCall lenT (aCons (mVar i) aNil)) env (xlenT t) := fun d e => by
  obtain ⟨u, eu, e⟩ := bs e
  simp only [mCall, aCons, aNil, mVar, h, Option.join_some, Option.map_some, Option.bind_some, eu, pure_eq e]
theorem sb_frzT {k : D → Option R} (h : env[i]? = some (some t)) (hk : ∀ d, SB a (env.set i (some (.p d))) (k d) Z) : SB (sFrz i a) env (t.snap.bind k) Z := fun r e => by
  obtain ⟨d, ed, e⟩ := bs e
  exact sb_frz h ed (hk d) r e
theorem sb_retTs {k : D → R} (h : env[i]? = some (some t)) (hz : ∀ d, t.snap = some d → Z (k d) (.rt t)) : SB (sCons (sRetV i) rest) env (t.snap.map k) Z := fun r e => by
  simp only [Option.map_eq_some_iff] at e
  obtain ⟨d, ed, rfl⟩ := e
  exact ⟨_, by simp only [sCons, sRetV, slotT, h, Option.join_some, Option.map_some, Option.bind_some], hz d ed⟩
def RTt (r t : T) : Prop := t = r
theorem FR.ts {x : Option T} {p : Option T} (h : FR RTt x p) : FR RTs x (p.bind T.snap) := fun d e => by
  obtain ⟨t, et, e⟩ := bs e
  obtain ⟨u, h1, h2⟩ := h t et
  have h2 : u = t := h2
  subst h2
  exact ⟨_, h1, e⟩
end
section
variable {env : En} {m1 m2 m3 m4 : EM} {fn : List T → Option T} {α β γ δ : Type} {τ1 : α → T} {τ2 : β → T} {τ3 : γ → T} {τ4 : δ → T} {p1 : Option α} {p2 : Option β} {p3 : Option γ} {p4 : Option δ}
variable {q1 q2 q3 : Option D}
end
end N
namespace N
open PySem PySem.Spec PyProof.Rows L2 M
theorem e_revw {m : EM} {env : En} {p : Option D} (h : EW m env p) : EX (mRevT m) env (xrev p) := fun d e => by
  obtain ⟨x, ex, e⟩ := bs e
  obtain ⟨t, et, w⟩ := h x ex
  simp only [mRevT, et, Option.bind_some]
  cases w with
  | p => cases x <;> simp at e <;> subst e <;> rfl
  | o xs =>
    simp only [Option.some.injEq] at e
    subst e
    simp [own1, T.seq?, pures_map]
end N
section
set_option maxHeartbeats 4000000
open PySem PySem.Spec PyProof.Rows L2 M N
noncomputable section
def P.law_cell_at (x0 : List Int) (x1 : D) : Option D := qc Q.law_cell_at [.sc x0, .p x1]
theorem R.law_cell_at (x0 : List Int) (x1 : D) : FR RTs (Q.law_cell_at [.sc x0, .p x1]) (P.law_cell_at x0 x1) := fr_qc rfl
def P.law_draws (x0 : D) (x1 : D) (x2 : D) : Option D := qc Q.law_draws [.p x0, .p x1, .p x2]
theorem R.law_draws (x0 : D) (x1 : D) (x2 : D) : FR RTs (Q.law_draws [.p x0, .p x1, .p x2]) (P.law_draws x0 x1 x2) := fr_qc rfl
def P.cost_at (x0 : D) (x1 : D) : Option D := qc Q.cost_at [.p x0, .p x1]
theorem R.cost_at (x0 : D) (x1 : D) : FR RTs (Q.cost_at [.p x0, .p x1]) (P.cost_at x0 x1) := fr_qc rfl
def P.costs_of (x0 : D) : Option D := qc Q.costs_of [.p x0]
theorem R.costs_of (x0 : D) : FR RTs (Q.costs_of [.p x0]) (P.costs_of x0) := fr_qc rfl
def P.divisor (x0 : D) (x1 : D) : Option D := qc Q.divisor [.p x0, .p x1]
theorem R.divisor (x0 : D) (x1 : D) : FR RTs (Q.divisor [.p x0, .p x1]) (P.divisor x0 x1) := fr_qc rfl
def P.fraction (x0 : D) (x1 : D) : Option D := qc Q.fraction [.p x0, .p x1]
theorem R.fraction (x0 : D) (x1 : D) : FR RTs (Q.fraction [.p x0, .p x1]) (P.fraction x0 x1) := fr_qc rfl
def P.is_less (x0 : D) (x1 : D) : Option D := qc Q.is_less [.p x0, .p x1]
theorem R.is_less (x0 : D) (x1 : D) : FR RTs (Q.is_less [.p x0, .p x1]) (P.is_less x0 x1) := fr_qc rfl
def P.greater (x0 : D) (x1 : D) : Option D := qc Q.greater [.p x0, .p x1]
theorem R.greater (x0 : D) (x1 : D) : FR RTs (Q.greater [.p x0, .p x1]) (P.greater x0 x1) := fr_qc rfl
def P.way_between (x0 : D) (x1 : D) (x2 : D) : Option D := qc Q.way_between [.p x0, .p x1, .p x2]
theorem R.way_between (x0 : D) (x1 : D) (x2 : D) : FR RTs (Q.way_between [.p x0, .p x1, .p x2]) (P.way_between x0 x1 x2) := fr_qc rfl
def P.plus (x0 : D) (x1 : D) : Option D := qc Q.plus [.p x0, .p x1]
theorem R.plus (x0 : D) (x1 : D) : FR RTs (Q.plus [.p x0, .p x1]) (P.plus x0 x1) := fr_qc rfl
def P.minus (x0 : D) (x1 : D) : Option D := qc Q.minus [.p x0, .p x1]
theorem R.minus (x0 : D) (x1 : D) : FR RTs (Q.minus [.p x0, .p x1]) (P.minus x0 x1) := fr_qc rfl
def P.times (x0 : D) (x1 : D) : Option D := qc Q.times [.p x0, .p x1]
theorem R.times (x0 : D) (x1 : D) : FR RTs (Q.times [.p x0, .p x1]) (P.times x0 x1) := fr_qc rfl
def P.over (x0 : D) (x1 : D) : Option D := qc Q.over [.p x0, .p x1]
theorem R.over (x0 : D) (x1 : D) : FR RTs (Q.over [.p x0, .p x1]) (P.over x0 x1) := fr_qc rfl
abbrev RT_walks := RTo
def P.walks_E1 (costs : D) (many : D) (s : List D) (j : (Option T) × (Option T) × (Option T) × (Option T) × (Option T)) : En := [some (.p costs), some (.p many), some (own1 s), j.1, j.2.1, j.2.2.1, j.2.2.2.1, j.2.2.2.2]
def P.walks_E2 (costs : D) (many : D) (told_2 : List D) (turn : D) (s : List D) (j : (Option T) × (Option T) × (Option T)) : En := [some (.p costs), some (.p many), some (own1 told_2), some (.p turn), some (own1 s), j.1, j.2.1, j.2.2]
def P.walks_E3 (costs : D) (many : D) (told_2 : List D) (turn : D) (row_2 : List D) (there : D) (s : List D) (j : Option T) : En := [some (.p costs), some (.p many), some (own1 told_2), some (.p turn), some (own1 row_2), some (.p there), some (own1 s), j]
def P.walks_E4 (costs : D) (many : D) (told_2 : List D) (turn : D) (row_2 : List D) (there : D) (one : D) (s : List D) (j : Unit) : En := [some (.p costs), some (.p many), some (own1 told_2), some (.p turn), some (own1 row_2), some (.p there), some (own1 s), some (.p one)]
def P.walks_L1 (there : D) (told_2 : List D) (costs : D) (some_v_2 : List D) (one : D) : Option (List D) := (xif (xand (xbool (xop M.neT (some one) (some there))) (xbool (xop notnT (xop idxT (xop idxT (some (.list told_2)) (xneg (some (.int 1)))) (some one)) (some .none)))) ((xop subT (xop addT (xop idxT (xop idxT (some (.list told_2)) (xneg (some (.int 1)))) (some one)) (xop idxT (xop idxT (some costs) (some one)) (some there))) (xop idxT (xop idxT (some costs) (some one)) (some one))).bind fun y => (apd some_v_2 y).bind fun some_v_3 => some some_v_3) (some some_v_2)).bind fun some_v_4 => some some_v_4
theorem R.walks_L1 (costs : D) (many : D) (told_2 : List D) (turn : D) (row_2 : List D) (there : D) (some_v_2 : List D) (one : D) (jone_3 : Option T) : SB Q.walks_L1 [some (.p costs), some (.p many), some (own1 told_2), some (.p turn), some (own1 row_2), some (.p there), some (own1 some_v_2), some (.p one)] (P.walks_L1 there told_2 costs some_v_2 one) (ZN (P.walks_E3 costs many told_2 turn row_2 there)) := by
  unfold Q.walks_L1 P.walks_L1
  exact sb_one (sb_ifJ (enc := P.walks_E4 costs many told_2 turn row_2 there one) (b_and (b_op (e_op (e_var rfl) (e_var rfl))) (b_op (e_op (e_op (e_opw v2_ix (e_ow rfl) (EG.w (e_neg (e_c)))) (e_var rfl)) (e_c)))) (sb_one (sb_append rfl rfl (e_op (e_op (e_op (e_opw v2_ix (e_ow rfl) (EG.w (e_neg (e_c)))) (e_var rfl)) (e_op (e_op (e_var rfl) (e_var rfl)) (e_var rfl))) (e_op (e_op (e_var rfl) (e_var rfl)) (e_var rfl))) (fun some_v_3 => sb_nil ⟨(), rfl⟩))) (sb_nil ⟨(), rfl⟩) (fun some_v_4 jj => sb_nil ⟨some (.p one), .inl rfl⟩))
def P.walks_L2 (many : D) (told_2 : List D) (costs : D) (row_2 : List D) (there : D) : Option (List D) := (xseq []).bind fun some_v => (irng1 (some many)).bind fun ds => (fold (fun s d => P.walks_L1 there told_2 costs s d) ds some_v).bind fun some_v_5 => (xif (xbool (xop M.neT (some ((.list some_v_5))) (xlst []))) (xf1 minT (some ((.list some_v_5)))) (some .none)).bind fun y => (apd row_2 y).bind fun row_3 => some row_3
theorem R.walks_L2 (costs : D) (many : D) (told_2 : List D) (turn : D) (row_2 : List D) (there : D) (jthere_2 : Option T) (jsome_2 : Option T) (jone_2 : Option T) : SB Q.walks_L2 [some (.p costs), some (.p many), some (own1 told_2), some (.p turn), some (own1 row_2), some (.p there), jsome_2, jone_2] (P.walks_L2 many told_2 costs row_2 there) (ZN (P.walks_E2 costs many told_2 turn)) := by
  unfold Q.walks_L2 P.walks_L2
  exact sb_setF (f_lst (a_nil)) (fun some_v => show SB _ [some (.p costs), some (.p many), some (own1 told_2), some (.p turn), some (own1 row_2), some (.p there), some (own1 some_v), jone_2] _ _ from sb_for (enc := P.walks_E3 costs many told_2 turn row_2 there) (j0 := jone_2) (i_rng1 (e_var rfl)) rfl (stepN (fun s j d => R.walks_L1 costs many told_2 turn row_2 there s d j)) (fun some_v_5 jj_2 => show SB _ [some (.p costs), some (.p many), some (own1 told_2), some (.p turn), some (own1 row_2), some (.p there), some (own1 some_v_5), jj_2] _ _ from sb_frz rfl (snap_own1 _) (sb_one (sb_append rfl rfl (e_if (b_op (e_op (e_var rfl) (e_lst (a_nil)))) (e_f1 (e_var rfl)) (e_c)) (fun row_3 => sb_nil ⟨(some (.p there), some (.p ((.list some_v_5))), jj_2), .inl rfl⟩)))))
def P.walks_L3 (many : D) (costs : D) (told_2 : List D) (turn : D) : Option (List D) := (xseq []).bind fun row => (irng1 (some many)).bind fun ds => (fold (fun s d => P.walks_L2 many told_2 costs s d) ds row).bind fun row_4 => (some ((.list row_4))).bind fun y => (apd told_2 y).bind fun told_3 => some told_3
theorem R.walks_L3 (costs : D) (many : D) (told_2 : List D) (turn : D) (jturn : Option T) (jrow : Option T) (jthere : Option T) (jsome : Option T) (jone : Option T) : SB Q.walks_L3 [some (.p costs), some (.p many), some (own1 told_2), some (.p turn), jrow, jthere, jsome, jone] (P.walks_L3 many costs told_2 turn) (ZN (P.walks_E1 costs many)) := by
  unfold Q.walks_L3 P.walks_L3
  exact sb_setF (f_lst (a_nil)) (fun row => show SB _ [some (.p costs), some (.p many), some (own1 told_2), some (.p turn), some (own1 row), jthere, jsome, jone] _ _ from sb_for (enc := P.walks_E2 costs many told_2 turn) (j0 := (jthere, jsome, jone)) (i_rng1 (e_var rfl)) rfl (stepN (fun s j d => R.walks_L2 costs many told_2 turn s d j.1 j.2.1 j.2.2)) (fun row_4 jj_3 => show SB _ [some (.p costs), some (.p many), some (own1 told_2), some (.p turn), some (own1 row_4), jj_3.1, jj_3.2.1, jj_3.2.2] _ _ from sb_frz rfl (snap_own1 _) (sb_one (sb_append rfl rfl (e_var rfl) (fun told_3 => sb_nil ⟨(some (.p turn), some (.p ((.list row_4))), jj_3.1, jj_3.2.1, jj_3.2.2), .inl rfl⟩)))))
def P.walks (costs : D) : Option (D) := (xf1 lenT (some costs)).bind fun many => (xseq [xop addT (xlst [some (.int 0)]) (xop mulT (xlst [some .none]) (xop subT (some many) (some (.int 1))))]).bind fun told => (irng1 (some many)).bind fun ds => (fold (fun s d => P.walks_L3 many costs s d) ds told).bind fun told_4 => some ((.list told_4))
theorem R.walks (costs : D) : FR (RT_walks) (Q.walks [.p costs]) (P.walks costs) := by
  unfold Q.walks P.walks
  exact run_fr (show SB _ [some (.p costs), none, none, none, none, none, none, none] _ _ from sb_set (e_f1 (e_var rfl)) (fun many => show SB _ [some (.p costs), some (.p many), none, none, none, none, none, none] _ _ from sb_setF (f_lst (af_cons (e_op (e_lst (a_cons (e_c) (a_nil))) (e_op (e_lst (a_cons (e_c) (a_nil))) (e_op (e_var rfl) (e_c)))) (a_nil))) (fun told => show SB _ [some (.p costs), some (.p many), some (own1 told), none, none, none, none, none] _ _ from sb_for (enc := P.walks_E1 costs many) (j0 := (none, none, none, none, none)) (i_rng1 (e_var rfl)) rfl (stepN (fun s j d => R.walks_L3 costs many s d j.1 j.2.1 j.2.2.1 j.2.2.2.1 j.2.2.2.2)) (fun told_4 jj_4 => show SB _ [some (.p costs), some (.p many), some (own1 told_4), jj_4.1, jj_4.2.1, jj_4.2.2.1, jj_4.2.2.2.1, jj_4.2.2.2.2] _ _ from sb_one (sb_retV rfl (.inl ⟨_, rfl, ⟨_, rfl, rfl⟩⟩))))))
abbrev RT_least_mean := RTp
def P.least_mean_E1 (costs : D) (many : D) (told : D) (s : D) (j : (Option T) × (Option T) × (Option T) × (Option T)) : En := [some (.p costs), some (.p many), some (.p told), some (.p s), j.1, j.2.1, j.2.2.1, j.2.2.2]
def P.least_mean_E2 (costs : D) (many : D) (told : D) (there : D) (s : D) (j : (Option T) × (Option T) × (Option T)) : En := [some (.p costs), some (.p many), some (.p told), some (.p s), some (.p there), j.1, j.2.1, j.2.2]
def P.least_mean_E3 (costs : D) (many : D) (told : D) (best_2 : D) (there : D) (s : D) (j : (Option T) × (Option T)) : En := [some (.p costs), some (.p many), some (.p told), some (.p best_2), some (.p there), some (.p s), j.1, j.2]
def P.least_mean_E4 (costs : D) (many : D) (told : D) (best_2 : D) (there : D) (k : D) (s : D) (j : Option T) : En := [some (.p costs), some (.p many), some (.p told), some (.p best_2), some (.p there), some (.p s), some (.p k), j]
def P.least_mean_E5 (costs : D) (many : D) (told : D) (best_2 : D) (there : D) (k : D) (here : D) (s : D) (j : Unit) : En := [some (.p costs), some (.p many), some (.p told), some (.p best_2), some (.p there), some (.p s), some (.p k), some (.p here)]
def P.least_mean_L1 (told : D) (there : D) (many : D) (worst_2 : D) (k : D) : Option (D) := (xif (xbool (xop notnT (xop idxT (xop idxT (some told) (some k)) (some there)) (some .none))) ((ap2 P.fraction (xop subT (xop idxT (xop idxT (some told) (some many)) (some there)) (xop idxT (xop idxT (some told) (some k)) (some there))) (xop subT (some many) (some k))).bind fun here => (xif (xor' (xbool (xop isnT (some worst_2) (some .none))) (xbool (ap2 P.is_less (some worst_2) (some here)))) ((some here).bind fun worst_3 => some worst_3) (some worst_2)).bind fun worst_4 => some worst_4) (some worst_2)).bind fun worst_5 => some worst_5
theorem R.least_mean_L1 (costs : D) (many : D) (told : D) (best_2 : D) (there : D) (worst_2 : D) (k : D) (jk_2 : Option T) (jhere_2 : Option T) : SB Q.least_mean_L1 [some (.p costs), some (.p many), some (.p told), some (.p best_2), some (.p there), some (.p worst_2), some (.p k), jhere_2] (P.least_mean_L1 told there many worst_2 k) (ZN (P.least_mean_E3 costs many told best_2 there)) := by
  unfold Q.least_mean_L1 P.least_mean_L1
  exact sb_one (sb_ifJ (enc := P.least_mean_E4 costs many told best_2 there k) (b_op (e_op (e_op (e_op (e_var rfl) (e_var rfl)) (e_var rfl)) (e_c))) (sb_set (e_call2 (e_op (e_op (e_op (e_var rfl) (e_var rfl)) (e_var rfl)) (e_op (e_op (e_var rfl) (e_var rfl)) (e_var rfl))) (e_op (e_var rfl) (e_var rfl)) fz_p fz_p (fun a b => R.fraction a b)) (fun here => show SB _ [some (.p costs), some (.p many), some (.p told), some (.p best_2), some (.p there), some (.p worst_2), some (.p k), some (.p here)] _ _ from sb_one (sb_ifJ (enc := P.least_mean_E5 costs many told best_2 there k here) (b_or (b_op (e_op (e_var rfl) (e_c))) (b_val (e_call2 (e_var rfl) (e_var rfl) fz_p fz_p (fun a b => R.is_less a b)))) (sb_one (sb_set (e_var rfl) (fun worst_3 => sb_nil ⟨(), rfl⟩))) (sb_nil ⟨(), rfl⟩) (fun worst_4 jj => sb_nil ⟨some (.p here), rfl⟩)))) (sb_nil ⟨jhere_2, rfl⟩) (fun worst_5 jj_2 => sb_nil ⟨(some (.p k), jj_2), .inl rfl⟩))
def P.least_mean_E6 (costs : D) (many : D) (told : D) (there : D) (worst_6 : D) (jk_3 : Option T) (jhere_4 : Option T) (s : D) (j : Unit) : En := [some (.p costs), some (.p many), some (.p told), some (.p s), some (.p there), some (.p worst_6), jk_3, jhere_4]
def P.least_mean_L2 (told : D) (many : D) (best_2 : D) (there : D) : Option (D) := (xif (xbool (xop notnT (xop idxT (xop idxT (some told) (some many)) (some there)) (some .none))) ((some .none).bind fun worst => (irng1 (some many)).bind fun ds => (fold (fun s d => P.least_mean_L1 told there many s d) ds worst).bind fun worst_6 => (xif (xor' (xbool (xop isnT (some best_2) (some .none))) (xbool (ap2 P.is_less (some worst_6) (some best_2)))) ((some worst_6).bind fun best_3 => some best_3) (some best_2)).bind fun best_4 => some best_4) (some best_2)).bind fun best_5 => some best_5
theorem R.least_mean_L2 (costs : D) (many : D) (told : D) (best_2 : D) (there : D) (jthere : Option T) (jworst : Option T) (jk : Option T) (jhere : Option T) : SB Q.least_mean_L2 [some (.p costs), some (.p many), some (.p told), some (.p best_2), some (.p there), jworst, jk, jhere] (P.least_mean_L2 told many best_2 there) (ZN (P.least_mean_E1 costs many told)) := by
  unfold Q.least_mean_L2 P.least_mean_L2
  exact sb_one (sb_ifJ (enc := P.least_mean_E2 costs many told there) (b_op (e_op (e_op (e_op (e_var rfl) (e_var rfl)) (e_var rfl)) (e_c))) (sb_set (e_c) (fun worst => show SB _ [some (.p costs), some (.p many), some (.p told), some (.p best_2), some (.p there), some (.p worst), jk, jhere] _ _ from sb_for (enc := P.least_mean_E3 costs many told best_2 there) (j0 := (jk, jhere)) (i_rng1 (e_var rfl)) rfl (stepN (fun s j d => R.least_mean_L1 costs many told best_2 there s d j.1 j.2)) (fun worst_6 jj_4 => show SB _ [some (.p costs), some (.p many), some (.p told), some (.p best_2), some (.p there), some (.p worst_6), jj_4.1, jj_4.2] _ _ from sb_one (sb_ifJ (enc := P.least_mean_E6 costs many told there worst_6 jj_4.1 jj_4.2) (b_or (b_op (e_op (e_var rfl) (e_c))) (b_val (e_call2 (e_var rfl) (e_var rfl) fz_p fz_p (fun a b => R.is_less a b)))) (sb_one (sb_set (e_var rfl) (fun best_3 => sb_nil ⟨(), rfl⟩))) (sb_nil ⟨(), rfl⟩) (fun best_4 jj_3 => sb_nil ⟨(some (.p worst_6), jj_4.1, jj_4.2), rfl⟩))))) (sb_nil ⟨(jworst, jk, jhere), rfl⟩) (fun best_5 jj_5 => sb_nil ⟨(some (.p there), jj_5.1, jj_5.2.1, jj_5.2.2), .inl rfl⟩))
def P.least_mean (costs : D) : Option (D) := (xf1 lenT (some costs)).bind fun many => (ap1 P.walks (some costs)).bind fun told => (some .none).bind fun best => (irng1 (some many)).bind fun ds => (fold (fun s d => P.least_mean_L2 told many s d) ds best).bind fun best_6 => some best_6
theorem R.least_mean (costs : D) : FR (RT_least_mean) (Q.least_mean [.p costs]) (P.least_mean costs) := by
  unfold Q.least_mean P.least_mean
  exact run_fr (show SB _ [some (.p costs), none, none, none, none, none, none, none] _ _ from sb_set (e_f1 (e_var rfl)) (fun many => show SB _ [some (.p costs), some (.p many), none, none, none, none, none, none] _ _ from sb_set (e_call1 (e_var rfl) fz_p (fun a => FR.os (R.walks a))) (fun told => show SB _ [some (.p costs), some (.p many), some (.p told), none, none, none, none, none] _ _ from sb_set (e_c) (fun best => show SB _ [some (.p costs), some (.p many), some (.p told), some (.p best), none, none, none, none] _ _ from sb_for (enc := P.least_mean_E1 costs many told) (j0 := (none, none, none, none)) (i_rng1 (e_var rfl)) rfl (stepN (fun s j d => R.least_mean_L2 costs many told s d j.1 j.2.1 j.2.2.1 j.2.2.2)) (fun best_6 jj_6 => show SB _ [some (.p costs), some (.p many), some (.p told), some (.p best_6), jj_6.1, jj_6.2.1, jj_6.2.2.1, jj_6.2.2.2] _ _ from sb_one (sb_retV rfl (.inl ⟨_, rfl, rfl⟩)))))))
abbrev RT_lifted := RTo
def P.lifted_E1 (costs : D) (mean : D) (many : D) (s : List D) (j : (Option T) × (Option T) × (Option T) × (Option T)) : En := [some (.p costs), some (.p mean), some (.p many), some (own1 s), j.1, j.2.1, j.2.2.1, j.2.2.2]
def P.lifted_E2 (costs : D) (mean : D) (many : D) (turn : D) (s : List D) (j : (Option T) × (Option T) × (Option T)) : En := [some (.p costs), some (.p mean), some (.p many), some (own1 s), some (.p turn), j.1, j.2.1, j.2.2]
def P.lifted_E3 (costs : D) (mean : D) (many : D) (turn : D) (one : D) (s : List D) (j : (Option T) × (Option T)) : En := [some (.p costs), some (.p mean), some (.p many), some (own1 s), some (.p turn), some (.p one), j.1, j.2]
def P.lifted_E4 (costs : D) (mean : D) (many : D) (turn : D) (one : D) (other : D) (there : D) (s : List D) (j : Unit) : En := [some (.p costs), some (.p mean), some (.p many), some (own1 s), some (.p turn), some (.p one), some (.p other), some (.p there)]
def P.lifted_L1 (one : D) (costs : D) (mean : D) (worths_4 : List D) (other : D) : Option (List D) := (ap2 P.minus (ap2 P.plus (xop idxT (some (.list worths_4)) (some one)) (xtup [xop subT (xop idxT (xop idxT (some costs) (some one)) (some other)) (xop idxT (xop idxT (some costs) (some one)) (some one)), some (.int 1)])) (some mean)).bind fun there => (xif (xand (xbool (xop M.neT (some one) (some other))) (xbool (ap2 P.is_less (some there) (xop idxT (some (.list worths_4)) (some other))))) ((some other).bind fun l => (some there).bind fun y => (setL worths_4 l y).bind fun worths_5 => some worths_5) (some worths_4)).bind fun worths_6 => some worths_6
theorem R.lifted_L1 (costs : D) (mean : D) (many : D) (turn : D) (one : D) (worths_4 : List D) (other : D) (jother_3 : Option T) (jthere_3 : Option T) : SB Q.lifted_L1 [some (.p costs), some (.p mean), some (.p many), some (own1 worths_4), some (.p turn), some (.p one), some (.p other), jthere_3] (P.lifted_L1 one costs mean worths_4 other) (ZN (P.lifted_E3 costs mean many turn one)) := by
  unfold Q.lifted_L1 P.lifted_L1
  exact sb_set (e_call2 (e_call2 (e_opw v2_ix (e_ow rfl) (EG.w (e_var rfl))) (e_tup (a_cons (e_op (e_op (e_op (e_var rfl) (e_var rfl)) (e_var rfl)) (e_op (e_op (e_var rfl) (e_var rfl)) (e_var rfl))) (a_cons (e_c) (a_nil)))) fz_p fz_p (fun a b => R.plus a b)) (e_var rfl) fz_p fz_p (fun a b => R.minus a b)) (fun there => show SB _ [some (.p costs), some (.p mean), some (.p many), some (own1 worths_4), some (.p turn), some (.p one), some (.p other), some (.p there)] _ _ from sb_one (sb_ifJ (enc := P.lifted_E4 costs mean many turn one other there) (b_and (b_op (e_op (e_var rfl) (e_var rfl))) (b_val (e_call2 (e_var rfl) (e_opw v2_ix (e_ow rfl) (EG.w (e_var rfl))) fz_p fz_p (fun a b => R.is_less a b)))) (sb_one (sb_setIx rfl rfl (e_var rfl) (e_var rfl) (fun worths_5 => sb_nil ⟨(), rfl⟩))) (sb_nil ⟨(), rfl⟩) (fun worths_6 jj => sb_nil ⟨(some (.p other), some (.p there)), .inl rfl⟩)))
def P.lifted_L2 (many : D) (costs : D) (mean : D) (worths_3 : List D) (one : D) : Option (List D) := (irng1 (some many)).bind fun ds => (fold (fun s d => P.lifted_L1 one costs mean s d) ds worths_3).bind fun worths_7 => some worths_7
theorem R.lifted_L2 (costs : D) (mean : D) (many : D) (turn : D) (worths_3 : List D) (one : D) (jone_2 : Option T) (jother_2 : Option T) (jthere_2 : Option T) : SB Q.lifted_L2 [some (.p costs), some (.p mean), some (.p many), some (own1 worths_3), some (.p turn), some (.p one), jother_2, jthere_2] (P.lifted_L2 many costs mean worths_3 one) (ZN (P.lifted_E2 costs mean many turn)) := by
  unfold Q.lifted_L2 P.lifted_L2
  exact sb_one (sb_for (enc := P.lifted_E3 costs mean many turn one) (j0 := (jother_2, jthere_2)) (i_rng1 (e_var rfl)) rfl (stepN (fun s j d => R.lifted_L1 costs mean many turn one s d j.1 j.2)) (fun worths_7 jj_2 => sb_nil ⟨(some (.p one), jj_2.1, jj_2.2), .inl rfl⟩))
def P.lifted_L3 (many : D) (costs : D) (mean : D) (worths_2 : List D) (turn : D) : Option (List D) := (irng1 (some many)).bind fun ds => (fold (fun s d => P.lifted_L2 many costs mean s d) ds worths_2).bind fun worths_8 => some worths_8
theorem R.lifted_L3 (costs : D) (mean : D) (many : D) (worths_2 : List D) (turn : D) (jturn : Option T) (jone : Option T) (jother : Option T) (jthere : Option T) : SB Q.lifted_L3 [some (.p costs), some (.p mean), some (.p many), some (own1 worths_2), some (.p turn), jone, jother, jthere] (P.lifted_L3 many costs mean worths_2 turn) (ZN (P.lifted_E1 costs mean many)) := by
  unfold Q.lifted_L3 P.lifted_L3
  exact sb_one (sb_for (enc := P.lifted_E2 costs mean many turn) (j0 := (jone, jother, jthere)) (i_rng1 (e_var rfl)) rfl (stepN (fun s j d => R.lifted_L2 costs mean many turn s d j.1 j.2.1 j.2.2)) (fun worths_8 jj_3 => sb_nil ⟨(some (.p turn), jj_3.1, jj_3.2.1, jj_3.2.2), .inl rfl⟩))
def P.lifted (costs : D) (mean : D) : Option (D) := (xf1 lenT (some costs)).bind fun many => (xrep (xlst [xtup [some (.int 0), some (.int 1)]]) (some many)).bind fun worths => (irng1 (some many)).bind fun ds => (fold (fun s d => P.lifted_L3 many costs mean s d) ds worths).bind fun worths_9 => some ((.list worths_9))
theorem R.lifted (costs : D) (mean : D) : FR (RT_lifted) (Q.lifted [.p costs, .p mean]) (P.lifted costs mean) := by
  unfold Q.lifted P.lifted
  exact run_fr (show SB _ [some (.p costs), some (.p mean), none, none, none, none, none, none] _ _ from sb_set (e_f1 (e_var rfl)) (fun many => show SB _ [some (.p costs), some (.p mean), some (.p many), none, none, none, none, none] _ _ from sb_setF (f_rep (e_lst (a_cons (e_tup (a_cons (e_c) (a_cons (e_c) (a_nil)))) (a_nil))) (e_var rfl)) (fun worths => show SB _ [some (.p costs), some (.p mean), some (.p many), some (own1 worths), none, none, none, none] _ _ from sb_for (enc := P.lifted_E1 costs mean many) (j0 := (none, none, none, none)) (i_rng1 (e_var rfl)) rfl (stepN (fun s j d => R.lifted_L3 costs mean many s d j.1 j.2.1 j.2.2.1 j.2.2.2)) (fun worths_9 jj_4 => show SB _ [some (.p costs), some (.p mean), some (.p many), some (own1 worths_9), jj_4.1, jj_4.2.1, jj_4.2.2.1, jj_4.2.2.2] _ _ from sb_one (sb_retV rfl (.inl ⟨_, rfl, ⟨_, rfl, rfl⟩⟩))))))
abbrev RT_dearest := RTp
def P.dearest_E1 (book : D) (costs : D) (mean : D) (worths : D) (s : List D) (j : (Option T) × (Option T) × (Option T) × (Option T)) : En := [some (.p book), some (.p costs), some (.p mean), some (.p worths), some (own1 s), j.1, j.2.1, j.2.2.1, j.2.2.2, none]
def P.dearest_E2 (book : D) (costs : D) (mean : D) (worths : D) (ways_2 : List D) (one : D) (s : List D) (j : (Option T) × (Option T)) : En := [some (.p book), some (.p costs), some (.p mean), some (.p worths), some (own1 ways_2), some (.p one), some (own1 s), j.1, j.2, none]
def P.dearest_L1 (worths : D) (one : D) (costs : D) (mean : D) (row_2 : List D) (other : D) : Option (List D) := (ap2 P.minus (ap2 P.plus (xop idxT (some worths) (some one)) (xtup [xop subT (xop idxT (xop idxT (some costs) (some one)) (some other)) (xop idxT (xop idxT (some costs) (some one)) (some one)), some (.int 1)])) (some mean)).bind fun there => (xmand (xop M.neT (some one) (some other)) (xop M.eqT (some there) (xop idxT (some worths) (some other)))).bind fun y => (apd row_2 y).bind fun row_3 => some row_3
theorem R.dearest_L1 (book : D) (costs : D) (mean : D) (worths : D) (ways_2 : List D) (one : D) (row_2 : List D) (other : D) (jother_2 : Option T) (jthere_2 : Option T) : SB Q.dearest_L1 [some (.p book), some (.p costs), some (.p mean), some (.p worths), some (own1 ways_2), some (.p one), some (own1 row_2), some (.p other), jthere_2, none] (P.dearest_L1 worths one costs mean row_2 other) (ZN (P.dearest_E2 book costs mean worths ways_2 one)) := by
  unfold Q.dearest_L1 P.dearest_L1
  exact sb_set (e_call2 (e_call2 (e_op (e_var rfl) (e_var rfl)) (e_tup (a_cons (e_op (e_op (e_op (e_var rfl) (e_var rfl)) (e_var rfl)) (e_op (e_op (e_var rfl) (e_var rfl)) (e_var rfl))) (a_cons (e_c) (a_nil)))) fz_p fz_p (fun a b => R.plus a b)) (e_var rfl) fz_p fz_p (fun a b => R.minus a b)) (fun there => show SB _ [some (.p book), some (.p costs), some (.p mean), some (.p worths), some (own1 ways_2), some (.p one), some (own1 row_2), some (.p other), some (.p there), none] _ _ from sb_one (sb_append rfl rfl (e_and (e_op (e_var rfl) (e_var rfl)) (e_op (e_var rfl) (e_op (e_var rfl) (e_var rfl)))) (fun row_3 => sb_nil ⟨(some (.p other), some (.p there)), .inl rfl⟩)))
def P.dearest_L2 (book : D) (worths : D) (costs : D) (mean : D) (ways_2 : List D) (one : D) : Option (List D) := (xseq []).bind fun row => (irng1 (xf1 lenT (some book))).bind fun ds => (fold (fun s d => P.dearest_L1 worths one costs mean s d) ds row).bind fun row_4 => (some ((.list row_4))).bind fun y => (apd ways_2 y).bind fun ways_3 => some ways_3
theorem R.dearest_L2 (book : D) (costs : D) (mean : D) (worths : D) (ways_2 : List D) (one : D) (jone : Option T) (jrow : Option T) (jother : Option T) (jthere : Option T) : SB Q.dearest_L2 [some (.p book), some (.p costs), some (.p mean), some (.p worths), some (own1 ways_2), some (.p one), jrow, jother, jthere, none] (P.dearest_L2 book worths costs mean ways_2 one) (ZN (P.dearest_E1 book costs mean worths)) := by
  unfold Q.dearest_L2 P.dearest_L2
  exact sb_setF (f_lst (a_nil)) (fun row => show SB _ [some (.p book), some (.p costs), some (.p mean), some (.p worths), some (own1 ways_2), some (.p one), some (own1 row), jother, jthere, none] _ _ from sb_for (enc := P.dearest_E2 book costs mean worths ways_2 one) (j0 := (jother, jthere)) (i_rng1 (e_f1 (e_var rfl))) rfl (stepN (fun s j d => R.dearest_L1 book costs mean worths ways_2 one s d j.1 j.2)) (fun row_4 jj => show SB _ [some (.p book), some (.p costs), some (.p mean), some (.p worths), some (own1 ways_2), some (.p one), some (own1 row_4), jj.1, jj.2, none] _ _ from sb_frz rfl (snap_own1 _) (sb_one (sb_append rfl rfl (e_var rfl) (fun ways_3 => sb_nil ⟨(some (.p one), some (.p ((.list row_4))), jj.1, jj.2), .inl rfl⟩)))))
def P.dearest_E3 (book : D) (costs : D) (mean : D) (worths : D) (ways_4 : List D) (jrow_2 : Option T) (jthere_4 : Option T) (s : Unit) (j : (Option T) × (Option T) × (Option T)) : En := [some (.p book), some (.p costs), some (.p mean), some (.p worths), some (.p ((.list ways_4))), j.1, jrow_2, j.2.1, jthere_4, j.2.2]
def P.dearest_E4 (book : D) (costs : D) (mean : D) (worths : D) (ways_4 : List D) (one_2 : D) (jrow_2 : Option T) (jthere_4 : Option T) (s : Unit) (j : (Option T) × (Option T)) : En := [some (.p book), some (.p costs), some (.p mean), some (.p worths), some (.p ((.list ways_4))), some (.p one_2), jrow_2, j.1, jthere_4, j.2]
def P.dearest_L3 (ways_4 : List D) (one_2 : D) (mean : D) (worths : D) (other_2 : D) : Option (Ct (Unit) (D)) := xif (xbool (xop idxT (xop idxT (some ((.list ways_4))) (some one_2)) (some other_2))) ((ap3 P.way_between (some ((.list ways_4))) (some other_2) (some one_2)).bind fun way => xif (xbool (xop notnT (some way) (some .none))) ((xtup [ap2 P.over (some mean) (xop subT (some (.int 0)) (some (.int 1))), some way, some worths]).map .rt) (some (.nx (())))) (some (.nx (())))
theorem R.dearest_L3 (book : D) (costs : D) (mean : D) (worths : D) (ways_4 : List D) (one_2 : D) (jrow_2 : Option T) (jthere_4 : Option T) (other_2 : D) (jother_6 : Option T) (jway_2 : Option T) : SB Q.dearest_L3 [some (.p book), some (.p costs), some (.p mean), some (.p worths), some (.p ((.list ways_4))), some (.p one_2), jrow_2, some (.p other_2), jthere_4, jway_2] (P.dearest_L3 ways_4 one_2 mean worths other_2) (ZC RT_dearest (P.dearest_E4 book costs mean worths ways_4 one_2 jrow_2 jthere_4)) := by
  unfold Q.dearest_L3 P.dearest_L3
  exact sb_one (sb_if (b_val (e_op (e_op (e_var rfl) (e_var rfl)) (e_var rfl))) (sb_assoc (sb_set (e_call3 (e_var rfl) (e_var rfl) (e_var rfl) fz_p fz_p fz_p (fun a b c => R.way_between a b c)) (fun way => sb_if (b_op (e_op (e_var rfl) (e_c))) (sb_ret (k := Ct.rt) (e_tup (a_cons (e_call2 (e_var rfl) (e_op (e_c) (e_c)) fz_p fz_p (fun a b => R.over a b)) (a_cons (e_var rfl) (a_cons (e_var rfl) (a_nil))))) (fun d => ⟨_, rfl, rfl⟩)) (sb_skip (sb_nil ⟨(some (.p other_2), some (.p way)), .inl rfl⟩))))) (sb_skip (sb_nil ⟨(some (.p other_2), jway_2), .inl rfl⟩)))
def P.dearest_L4 (book : D) (ways_4 : List D) (mean : D) (worths : D) (one_2 : D) : Option (Ct (Unit) (D)) := (irng1 (xf1 lenT (some book))).bind fun ds => aft (foldC (fun s d => P.dearest_L3 ways_4 one_2 mean worths d) ds (())) Ct.rt fun v => some (.nx (()))
theorem R.dearest_L4 (book : D) (costs : D) (mean : D) (worths : D) (ways_4 : List D) (jrow_2 : Option T) (jthere_4 : Option T) (one_2 : D) (jone_3 : Option T) (jother_5 : Option T) (jway : Option T) : SB Q.dearest_L4 [some (.p book), some (.p costs), some (.p mean), some (.p worths), some (.p ((.list ways_4))), some (.p one_2), jrow_2, jother_5, jthere_4, jway] (P.dearest_L4 book ways_4 mean worths one_2) (ZC RT_dearest (P.dearest_E3 book costs mean worths ways_4 jrow_2 jthere_4)) := by
  unfold Q.dearest_L4 P.dearest_L4
  exact sb_one (sb_forC (enc := P.dearest_E4 book costs mean worths ways_4 one_2 jrow_2 jthere_4) (j0 := (jother_5, jway)) (RT := RT_dearest) (i_rng1 (e_f1 (e_var rfl))) rfl (stepNC (fun s j d => R.dearest_L3 book costs mean worths ways_4 one_2 jrow_2 jthere_4 d j.1 j.2)) (fun d t h => ⟨t, rfl, h⟩) (fun v jj_2 => sb_nil ⟨(some (.p one_2), jj_2.1, jj_2.2), .inl rfl⟩))
def P.dearest (book : D) : Option (D) := xif (xbool (xop ltT (xf1 lenT (some book)) (some (.int 2)))) (some .none) ((ap1 P.costs_of (some book)).bind fun costs => (ap1 P.least_mean (some costs)).bind fun mean => (ap2 P.lifted (some costs) (some mean)).bind fun worths => (xseq []).bind fun ways => (irng1 (xf1 lenT (some book))).bind fun ds => (fold (fun s d => P.dearest_L2 book worths costs mean s d) ds ways).bind fun ways_4 => (irng1 (xf1 lenT (some book))).bind fun ds => aft (foldC (fun s d => P.dearest_L4 book ways_4 mean worths d) ds (())) (fun d => d) fun v_2 => some .none)
theorem R.dearest (book : D) : FR (RT_dearest) (Q.dearest [.p book]) (P.dearest book) := by
  unfold Q.dearest P.dearest
  exact run_fr (show SB _ [some (.p book), none, none, none, none, none, none, none, none, none] _ _ from sb_if (b_op (e_op (e_f1 (e_var rfl)) (e_c))) (sb_ret0 (e_c) (fun d => .inl ⟨_, rfl, rfl⟩)) (sb_skip (show SB _ [some (.p book), none, none, none, none, none, none, none, none, none] _ _ from sb_set (e_call1 (e_var rfl) fz_p (fun a => R.costs_of a)) (fun costs => show SB _ [some (.p book), some (.p costs), none, none, none, none, none, none, none, none] _ _ from sb_set (e_call1 (e_var rfl) fz_p (fun a => FR.ps (R.least_mean a))) (fun mean => show SB _ [some (.p book), some (.p costs), some (.p mean), none, none, none, none, none, none, none] _ _ from sb_set (e_call2 (e_var rfl) (e_var rfl) fz_p fz_p (fun a b => FR.os (R.lifted a b))) (fun worths => show SB _ [some (.p book), some (.p costs), some (.p mean), some (.p worths), none, none, none, none, none, none] _ _ from sb_setF (f_lst (a_nil)) (fun ways => show SB _ [some (.p book), some (.p costs), some (.p mean), some (.p worths), some (own1 ways), none, none, none, none, none] _ _ from sb_for (enc := P.dearest_E1 book costs mean worths) (j0 := (none, none, none, none)) (i_rng1 (e_f1 (e_var rfl))) rfl (stepN (fun s j d => R.dearest_L2 book costs mean worths s d j.1 j.2.1 j.2.2.1 j.2.2.2)) (fun ways_4 jj_4 => show SB _ [some (.p book), some (.p costs), some (.p mean), some (.p worths), some (own1 ways_4), jj_4.1, jj_4.2.1, jj_4.2.2.1, jj_4.2.2.2, none] _ _ from sb_frz rfl (snap_own1 _) (sb_forC (enc := P.dearest_E3 book costs mean worths ways_4 jj_4.2.1 jj_4.2.2.2) (j0 := (jj_4.1, jj_4.2.2.1, none)) (RT := RT_dearest) (i_rng1 (e_f1 (e_var rfl))) rfl (stepNC (fun s j d => R.dearest_L4 book costs mean worths ways_4 jj_4.2.1 jj_4.2.2.2 d j.1 j.2.1 j.2.2)) (fun d t h => .inl ⟨t, rfl, h⟩) (fun v_2 jj_3 => show SB _ [some (.p book), some (.p costs), some (.p mean), some (.p worths), some (.p ((.list ways_4))), jj_3.1, jj_4.2.1, jj_3.2.1, jj_4.2.2.2, jj_3.2.2] _ _ from sb_one (sb_ret0 (e_c) (fun d => .inl ⟨_, rfl, rfl⟩))))))))))))
abbrev RT_need_number := RTp
def P.need_number (book : D) (number : D) : Option (D) := xif (xnot (xbool (xchain leT ltT (some (.int 0)) (some number) (xf1 lenT (some book))))) (none) (some .none)
theorem R.need_number (book : D) (number : D) : FR (RT_need_number) (Q.need_number [.p book, .p number]) (P.need_number book number) := by
  unfold Q.need_number P.need_number
  exact run_fr (show SB _ [some (.p book), some (.p number)] _ _ from sb_one (sb_if (b_not (b_val (e_chain (e_c) (e_var rfl) (e_f1 (e_var rfl))))) (sb_never) (sb_skip (sb_nil (.inr ⟨_, rfl, rfl⟩)))))
abbrev RT_things_in := RTp
def P.things_in_E1 (log : D) (s : List (Key × D)) (j : (Option T) × (Option T) × (Option T)) : En := [some (.p log), some (.md s), j.1, j.2.1, j.2.2]
def P.things_in_E2 (log : D) (offers : D) (taken : D) (s : List (Key × D)) (j : Option T) : En := [some (.p log), some (.md s), some (.p offers), some (.p taken), j]
def P.things_in_L1 (there_3 : List (Key × D)) (one : D) : Option (List (Key × D)) := (some (.bool true)).bind fun y => (some one).bind fun l => (putP there_3 l y).bind fun there_4 => some there_4
theorem R.things_in_L1 (log : D) (offers : D) (taken : D) (there_3 : List (Key × D)) (one : D) (jone_2 : Option T) : SB Q.things_in_L1 [some (.p log), some (.md there_3), some (.p offers), some (.p taken), some (.p one)] (P.things_in_L1 there_3 one) (ZN (P.things_in_E2 log offers taken)) := by
  unfold Q.things_in_L1 P.things_in_L1
  exact sb_one (sb_dput rfl rfl (e_var rfl) (e_c) (fun there_4 => sb_nil ⟨some (.p one), .inl rfl⟩))
def P.things_in_L2 (there_2 : List (Key × D)) (offers : D) (taken : D) : Option (List (Key × D)) := (iseq (some offers)).bind fun ds => (fold (fun s d => P.things_in_L1 s d) ds there_2).bind fun there_5 => some there_5
theorem R.things_in_L2 (log : D) (there_2 : List (Key × D)) (offers : D) (taken : D) (joffers : Option T) (jtaken : Option T) (jone : Option T) : SB Q.things_in_L2 [some (.p log), some (.md there_2), some (.p offers), some (.p taken), jone] (P.things_in_L2 there_2 offers taken) (ZN (P.things_in_E1 log)) := by
  unfold Q.things_in_L2 P.things_in_L2
  exact sb_one (sb_for (enc := P.things_in_E2 log offers taken) (j0 := jone) (i_seq (e_var rfl)) rfl (stepN (fun s j d => R.things_in_L1 log offers taken s d j)) (fun there_5 jj => sb_nil ⟨(some (.p offers), some (.p taken), jj), .inl rfl⟩))
def P.things_in (log : D) : Option (D) := (some []).bind fun there => (iseq (some log)).bind fun ds => (fold (fun s d => un2 d fun x y => P.things_in_L2 s x y) ds there).bind fun there_6 => xsortD there_6
theorem R.things_in (log : D) : FR (RT_things_in) (Q.things_in [.p log]) (P.things_in log) := by
  unfold Q.things_in P.things_in
  exact run_fr (show SB _ [some (.p log), none, none, none, none] _ _ from sb_setF (f_dnew) (fun there => show SB _ [some (.p log), some (.md there), none, none, none] _ _ from sb_for (enc := P.things_in_E1 log) (j0 := (none, none, none)) (i_seq (e_var rfl)) rfl (step2 (fun s j x y => R.things_in_L2 log s x y j.1 j.2.1 j.2.2)) (fun there_6 jj_2 => show SB _ [some (.p log), some (.md there_6), jj_2.1, jj_2.2.1, jj_2.2.2] _ _ from sb_one (sb_ret0 (e_sortD rfl rfl) (fun d => .inl ⟨_, rfl, rfl⟩)))))
abbrev RT_log_ways := RTp
def P.log_ways_E1 (log : D) (things : D) (s : (List (List D)) × (List (List D))) (j : Option T) : En := [some (.p log), some (.p things), some (own2 s.1), some (own2 s.2), j, none, none, none]
def P.log_ways_L1 (things : D) (steps_2 : List (List D)) (strict_2 : List (List D)) (one : D) : Option ((List (List D)) × (List (List D))) := (xrep (xlst [some (.bool false)]) (xf1 lenT (some things))).bind fun y => (apd2 steps_2 y).bind fun steps_3 => (xrep (xlst [some (.bool false)]) (xf1 lenT (some things))).bind fun y => (apd2 strict_2 y).bind fun strict_3 => some ((steps_3, strict_3))
theorem R.log_ways_L1 (log : D) (things : D) (steps_2 : List (List D)) (strict_2 : List (List D)) (one : D) (jone : Option T) : SB Q.log_ways_L1 [some (.p log), some (.p things), some (own2 steps_2), some (own2 strict_2), some (.p one), none, none, none] (P.log_ways_L1 things steps_2 strict_2 one) (ZN (P.log_ways_E1 log things)) := by
  unfold Q.log_ways_L1 P.log_ways_L1
  exact sb_appendF rfl rfl (f_rep (e_lst (a_cons (e_c) (a_nil))) (e_f1 (e_var rfl))) (fun steps_3 => show SB _ [some (.p log), some (.p things), some (own2 steps_3), some (own2 strict_2), some (.p one), none, none, none] _ _ from sb_one (sb_appendF rfl rfl (f_rep (e_lst (a_cons (e_c) (a_nil))) (e_f1 (e_var rfl))) (fun strict_3 => sb_nil ⟨some (.p one), .inl rfl⟩)))
def P.log_ways_E2 (log : D) (things : D) (s : (List (List D)) × (List (List D))) (j : (Option T) × (Option T) × (Option T) × (Option T)) : En := [some (.p log), some (.p things), some (own2 s.1), some (own2 s.2), j.1, j.2.1, j.2.2.1, j.2.2.2]
def P.log_ways_E3 (log : D) (things : D) (offers : D) (taken : D) (s : (List (List D)) × (List (List D))) (j : (Option T) × (Option T)) : En := [some (.p log), some (.p things), some (own2 s.1), some (own2 s.2), j.1, some (.p offers), some (.p taken), j.2]
def P.log_ways_E4 (log : D) (things : D) (one_2 : D) (offers : D) (taken : D) (s : (List (List D)) × (List (List D))) (j : Option T) : En := [some (.p log), some (.p things), some (own2 s.1), some (own2 s.2), some (.p one_2), some (.p offers), some (.p taken), j]
def P.log_ways_E5 (log : D) (things : D) (one_2 : D) (offers : D) (taken : D) (other : D) (s : (List (List D)) × (List (List D))) (j : Unit) : En := [some (.p log), some (.p things), some (own2 s.1), some (own2 s.2), some (.p one_2), some (.p offers), some (.p taken), some (.p other)]
def P.log_ways_E6 (log : D) (things : D) (steps_7 : List (List D)) (one_2 : D) (offers : D) (taken : D) (other : D) (s : List (List D)) (j : Unit) : En := [some (.p log), some (.p things), some (own2 steps_7), some (own2 s), some (.p one_2), some (.p offers), some (.p taken), some (.p other)]
def P.log_ways_L2 (one_2 : D) (things : D) (taken : D) (steps_6 : List (List D)) (strict_6 : List (List D)) (other : D) : Option ((List (List D)) × (List (List D))) := (xif (xbool (xop M.neT (some one_2) (some other))) ((xop idxOfT (some things) (some one_2)).bind fun a => (xop idxOfT (some things) (some other)).bind fun l => (some (.bool true)).bind fun y => (set2 steps_6 a l y).bind fun steps_7 => (xif (xbool (xop notInT (some other) (some taken))) ((xop idxOfT (some things) (some one_2)).bind fun a => (xop idxOfT (some things) (some other)).bind fun l => (some (.bool true)).bind fun y => (set2 strict_6 a l y).bind fun strict_7 => some strict_7) (some strict_6)).bind fun strict_8 => some (steps_7, strict_8)) (some (steps_6, strict_6))).bind fun v_2 => some ((v_2.1, v_2.2))
theorem R.log_ways_L2 (log : D) (things : D) (one_2 : D) (offers : D) (taken : D) (steps_6 : List (List D)) (strict_6 : List (List D)) (other : D) (jother_3 : Option T) : SB Q.log_ways_L2 [some (.p log), some (.p things), some (own2 steps_6), some (own2 strict_6), some (.p one_2), some (.p offers), some (.p taken), some (.p other)] (P.log_ways_L2 one_2 things taken steps_6 strict_6 other) (ZN (P.log_ways_E4 log things one_2 offers taken)) := by
  unfold Q.log_ways_L2 P.log_ways_L2
  exact sb_one (sb_ifJ (enc := P.log_ways_E5 log things one_2 offers taken other) (b_op (e_op (e_var rfl) (e_var rfl))) (sb_set2 rfl rfl (e_op (e_var rfl) (e_var rfl)) (e_op (e_var rfl) (e_var rfl)) (e_c) (fun steps_7 => show SB _ [some (.p log), some (.p things), some (own2 steps_7), some (own2 strict_6), some (.p one_2), some (.p offers), some (.p taken), some (.p other)] _ _ from sb_one (sb_ifJ (enc := P.log_ways_E6 log things steps_7 one_2 offers taken other) (b_op (e_op (e_var rfl) (e_var rfl))) (sb_one (sb_set2 rfl rfl (e_op (e_var rfl) (e_var rfl)) (e_op (e_var rfl) (e_var rfl)) (e_c) (fun strict_7 => sb_nil ⟨(), rfl⟩))) (sb_nil ⟨(), rfl⟩) (fun strict_8 jj => sb_nil ⟨(), rfl⟩)))) (sb_nil ⟨(), rfl⟩) (fun v_2 jj_2 => sb_nil ⟨some (.p other), .inl rfl⟩))
def P.log_ways_L3 (offers : D) (things : D) (taken : D) (steps_5 : List (List D)) (strict_5 : List (List D)) (one_2 : D) : Option ((List (List D)) × (List (List D))) := (iseq (some offers)).bind fun ds => (fold (fun s d => P.log_ways_L2 one_2 things taken s.1 s.2 d) ds ((steps_5, strict_5))).bind fun v_3 => some ((v_3.1, v_3.2))
theorem R.log_ways_L3 (log : D) (things : D) (offers : D) (taken : D) (steps_5 : List (List D)) (strict_5 : List (List D)) (one_2 : D) (jone_4 : Option T) (jother_2 : Option T) : SB Q.log_ways_L3 [some (.p log), some (.p things), some (own2 steps_5), some (own2 strict_5), some (.p one_2), some (.p offers), some (.p taken), jother_2] (P.log_ways_L3 offers things taken steps_5 strict_5 one_2) (ZN (P.log_ways_E3 log things offers taken)) := by
  unfold Q.log_ways_L3 P.log_ways_L3
  exact sb_one (sb_for (enc := P.log_ways_E4 log things one_2 offers taken) (j0 := jother_2) (i_seq (e_var rfl)) rfl (stepN (fun s j d => R.log_ways_L2 log things one_2 offers taken s.1 s.2 d j)) (fun v_3 jj_3 => sb_nil ⟨(some (.p one_2), jj_3), .inl rfl⟩))
def P.log_ways_L4 (things : D) (steps_4 : List (List D)) (strict_4 : List (List D)) (offers : D) (taken : D) : Option ((List (List D)) × (List (List D))) := (iseq (some taken)).bind fun ds => (fold (fun s d => P.log_ways_L3 offers things taken s.1 s.2 d) ds ((steps_4, strict_4))).bind fun v_4 => some ((v_4.1, v_4.2))
theorem R.log_ways_L4 (log : D) (things : D) (steps_4 : List (List D)) (strict_4 : List (List D)) (offers : D) (taken : D) (jone_3 : Option T) (joffers : Option T) (jtaken : Option T) (jother : Option T) : SB Q.log_ways_L4 [some (.p log), some (.p things), some (own2 steps_4), some (own2 strict_4), jone_3, some (.p offers), some (.p taken), jother] (P.log_ways_L4 things steps_4 strict_4 offers taken) (ZN (P.log_ways_E2 log things)) := by
  unfold Q.log_ways_L4 P.log_ways_L4
  exact sb_one (sb_for (enc := P.log_ways_E3 log things offers taken) (j0 := (jone_3, jother)) (i_seq (e_var rfl)) rfl (stepN (fun s j d => R.log_ways_L3 log things offers taken s.1 s.2 d j.1 j.2)) (fun v_4 jj_4 => sb_nil ⟨(jj_4.1, some (.p offers), some (.p taken), jj_4.2), .inl rfl⟩))
def P.log_ways (log : D) (things : D) : Option (D) := (some []).bind fun steps => (some []).bind fun strict => (iseq (some things)).bind fun ds => (fold (fun s d => P.log_ways_L1 things s.1 s.2 d) ds ((steps, strict))).bind fun v => (iseq (some log)).bind fun ds => (fold (fun s d => un2 d fun x y => P.log_ways_L4 things s.1 s.2 x y) ds ((v.1, v.2))).bind fun v_5 => xtup [some ((.list (v_5.1.map PyData.list))), some ((.list (v_5.2.map PyData.list)))]
theorem R.log_ways (log : D) (things : D) : FR (RT_log_ways) (Q.log_ways [.p log, .p things]) (P.log_ways log things) := by
  unfold Q.log_ways P.log_ways
  exact run_fr (show SB _ [some (.p log), some (.p things), none, none, none, none, none, none] _ _ from sb_setF (f_nil2) (fun steps => show SB _ [some (.p log), some (.p things), some (own2 steps), none, none, none, none, none] _ _ from sb_setF (f_nil2) (fun strict => show SB _ [some (.p log), some (.p things), some (own2 steps), some (own2 strict), none, none, none, none] _ _ from sb_for (enc := P.log_ways_E1 log things) (j0 := none) (i_seq (e_var rfl)) rfl (stepN (fun s j d => R.log_ways_L1 log things s.1 s.2 d j)) (fun v jj_6 => show SB _ [some (.p log), some (.p things), some (own2 v.1), some (own2 v.2), jj_6, none, none, none] _ _ from sb_for (enc := P.log_ways_E2 log things) (j0 := (jj_6, none, none, none)) (i_seq (e_var rfl)) rfl (step2 (fun s j x y => R.log_ways_L4 log things s.1 s.2 x y j.1 j.2.1 j.2.2.1 j.2.2.2)) (fun v_5 jj_5 => show SB _ [some (.p log), some (.p things), some (own2 v_5.1), some (own2 v_5.2), jj_5.1, jj_5.2.1, jj_5.2.2.1, jj_5.2.2.2] _ _ from sb_frz rfl (snap_own2 _) (sb_frz rfl (snap_own2 _) (sb_frz rfl (ev_snap) (sb_frz rfl (ev_snap) (sb_one (sb_ret0 (e_tup (a_cons (e_var rfl) (a_cons (e_var rfl) (a_nil)))) (fun d => .inl ⟨_, rfl, rfl⟩)))))))))))
abbrev RT_reached_from := RTs
def P.reached_from_E1 (steps : D) (one : D) (s : (List (Key × D)) × (List D)) (j : (Option T) × (Option T)) : En := [some (.p steps), some (.p one), some (.md s.1), some (own1 s.2), j.1, j.2]
def P.reached_from_E2 (steps : D) (one : D) (xd : List D × D) (s : (List (Key × D)) × (List D)) (j : Option T) : En := [some (.p steps), some (.p one), some (.md s.1), some (own1 s.2), some (.p xd.2), j]
def P.reached_from_E3 (steps : D) (one : D) (xd : List D × D) (other : D) (s : (List (Key × D)) × (List D)) (j : Unit) : En := [some (.p steps), some (.p one), some (.md s.1), some (own1 s.2), some (.p xd.2), some (.p other)]
def P.reached_from_L1 (steps : D) (xd : List D × D) (there_3 : List (Key × D)) (waiting_3 : List D) (other : D) : Option ((List (Key × D)) × (List D)) := (xif (xand (xbool (xop idxT (xop idxT (some steps) (some xd.2)) (some other))) (xbool (xdnin there_3 (some other)))) ((some (.bool true)).bind fun y => (some other).bind fun l => (putP there_3 l y).bind fun there_4 => (some other).bind fun y => (apd waiting_3 y).bind fun waiting_4 => some (there_4, waiting_4)) (some (there_3, waiting_3))).bind fun v => some ((v.1, v.2))
theorem R.reached_from_L1 (steps : D) (one : D) (xd : List D × D) (there_3 : List (Key × D)) (waiting_3 : List D) (other : D) (jother_2 : Option T) : SB Q.reached_from_L1 [some (.p steps), some (.p one), some (.md there_3), some (own1 waiting_3), some (.p xd.2), some (.p other)] (P.reached_from_L1 steps xd there_3 waiting_3 other) (ZN (P.reached_from_E2 steps one xd)) := by
  unfold Q.reached_from_L1 P.reached_from_L1
  exact sb_one (sb_ifJ (enc := P.reached_from_E3 steps one xd other) (b_and (b_val (e_op (e_op (e_var rfl) (e_var rfl)) (e_var rfl))) (b_op (e_dnin rfl rfl (e_var rfl)))) (sb_dput rfl rfl (e_var rfl) (e_c) (fun there_4 => show SB _ [some (.p steps), some (.p one), some (.md there_4), some (own1 waiting_3), some (.p xd.2), some (.p other)] _ _ from sb_one (sb_append rfl rfl (e_var rfl) (fun waiting_4 => sb_nil ⟨(), rfl⟩)))) (sb_nil ⟨(), rfl⟩) (fun v jj => sb_nil ⟨some (.p other), .inl rfl⟩))
def P.reached_from_L2 (steps : D) (there_2 : List (Key × D)) (waiting_2 : List D) : Option ((List (Key × D)) × (List D)) := (popL waiting_2 (-1)).bind fun xd => (irng1 (xf1 lenT (some steps))).bind fun ds => (fold (fun s d => P.reached_from_L1 steps xd s.1 s.2 d) ds ((there_2, xd.1))).bind fun v_2 => some ((v_2.1, v_2.2))
theorem R.reached_from_L2 (steps : D) (one : D) (there_2 : List (Key × D)) (waiting_2 : List D) (jhere : Option T) (jother : Option T) : SB Q.reached_from_L2 [some (.p steps), some (.p one), some (.md there_2), some (own1 waiting_2), jhere, jother] (P.reached_from_L2 steps there_2 waiting_2) (ZN (P.reached_from_E1 steps one)) := by
  unfold Q.reached_from_L2 P.reached_from_L2
  exact sb_setPop rfl rfl (fun xd => show SB _ [some (.p steps), some (.p one), some (.md there_2), some (own1 xd.1), some (.p xd.2), jother] _ _ from sb_one (sb_for (enc := P.reached_from_E2 steps one xd) (j0 := jother) (i_rng1 (e_f1 (e_var rfl))) rfl (stepN (fun s j d => R.reached_from_L1 steps one xd s.1 s.2 d j)) (fun v_2 jj_2 => sb_nil ⟨(some (.p xd.2), jj_2), .inl rfl⟩)))
def P.reached_from_C2 (there_2 : List (Key × D)) (waiting_2 : List D) : Option Bool := xbool (xop M.neT (some (.list waiting_2)) (xlst []))
def P.reached_from (steps : D) (one : D) : Option (D) := (xdone (some one) (some (.bool true))).bind fun there => (xseq [some one]).bind fun waiting => (whl (fun s => P.reached_from_C2 s.1 s.2) (fun s => P.reached_from_L2 steps s.1 s.2) FUEL ((there, waiting))).bind fun v_3 => some ((dD v_3.1))
theorem R.reached_from (steps : D) (one : D) : FR (RT_reached_from) (Q.reached_from [.p steps, .p one]) (P.reached_from steps one) := by
  unfold Q.reached_from P.reached_from
  exact run_fr (show SB _ [some (.p steps), some (.p one), none, none, none, none] _ _ from sb_setF (f_done (e_var rfl) (e_c)) (fun there => show SB _ [some (.p steps), some (.p one), some (.md there), none, none, none] _ _ from sb_setF (f_lst (af_cons (e_var rfl) (a_nil))) (fun waiting => show SB _ [some (.p steps), some (.p one), some (.md there), some (own1 waiting), none, none] _ _ from sb_whl (enc := P.reached_from_E1 steps one) (j0 := (none, none)) rfl (fun s j => by unfold P.reached_from_C2; exact b_op (e_opw v2_ne (e_ow rfl) (EG.w (e_lst (a_nil))))) (fun s j => R.reached_from_L2 steps one s.1 s.2 j.1 j.2) (fun v_3 jj_3 => show SB _ [some (.p steps), some (.p one), some (.md v_3.1), some (own1 v_3.2), jj_3.1, jj_3.2] _ _ from sb_one (sb_retV rfl (.inl ⟨_, rfl, rts_md _⟩))))))
abbrev RT_told_by_log := RTp
def P.told_by_log_E1 (log : D) (things : D) (steps : D) (strict : D) (many : D) (s : Unit) (j : (Option T) × (Option T) × (Option T)) : En := [some (.p log), some (.p things), some (.p steps), some (.p strict), some (.p many), j.1, j.2.1, j.2.2, none, none, none, none, none, none]
def P.told_by_log_E2 (log : D) (things : D) (steps : D) (strict : D) (many : D) (one : D) (s : Unit) (j : (Option T) × (Option T)) : En := [some (.p log), some (.p things), some (.p steps), some (.p strict), some (.p many), some (.p one), j.1, j.2, none, none, none, none, none, none]
def P.told_by_log_L1 (strict : D) (one : D) (steps : D) (things : D) (other : D) : Option (Ct (Unit) (D)) := xif (xbool (xop idxT (xop idxT (some strict) (some one)) (some other))) ((ap3 P.way_between (some steps) (some other) (some one)).bind fun way => xif (xbool (xop notnT (some way) (some .none))) ((xtup [some (.str "round"), xmap (fun k => xop idxT (some things) (some k)) (iseq (some way))]).map .rt) (some (.nx (())))) (some (.nx (())))
theorem R.told_by_log_L1 (log : D) (things : D) (steps : D) (strict : D) (many : D) (one : D) (other : D) (jother_2 : Option T) (jway_2 : Option T) : SB Q.told_by_log_L1 [some (.p log), some (.p things), some (.p steps), some (.p strict), some (.p many), some (.p one), some (.p other), jway_2, none, none, none, none, none, none] (P.told_by_log_L1 strict one steps things other) (ZC RT_told_by_log (P.told_by_log_E2 log things steps strict many one)) := by
  unfold Q.told_by_log_L1 P.told_by_log_L1
  exact sb_one (sb_if (b_val (e_op (e_op (e_var rfl) (e_var rfl)) (e_var rfl))) (sb_assoc (sb_set (e_call3 (e_var rfl) (e_var rfl) (e_var rfl) fz_p fz_p fz_p (fun a b c => R.way_between a b c)) (fun way => sb_if (b_op (e_op (e_var rfl) (e_c))) (sb_ret (k := Ct.rt) (e_tup (a_cons (e_c) (a_cons (e_map (i_seqB (EG.w (e_var rfl))) (fun k => e_op (e_var rfl) (e_var rfl))) (a_nil)))) (fun d => ⟨_, rfl, rfl⟩)) (sb_skip (sb_nil ⟨(some (.p other), some (.p way)), .inl rfl⟩))))) (sb_skip (sb_nil ⟨(some (.p other), jway_2), .inl rfl⟩)))
def P.told_by_log_L2 (many : D) (strict : D) (steps : D) (things : D) (one : D) : Option (Ct (Unit) (D)) := (irng1 (some many)).bind fun ds => aft (foldC (fun s d => P.told_by_log_L1 strict one steps things d) ds (())) Ct.rt fun v => some (.nx (()))
theorem R.told_by_log_L2 (log : D) (things : D) (steps : D) (strict : D) (many : D) (one : D) (jone : Option T) (jother : Option T) (jway : Option T) : SB Q.told_by_log_L2 [some (.p log), some (.p things), some (.p steps), some (.p strict), some (.p many), some (.p one), jother, jway, none, none, none, none, none, none] (P.told_by_log_L2 many strict steps things one) (ZC RT_told_by_log (P.told_by_log_E1 log things steps strict many)) := by
  unfold Q.told_by_log_L2 P.told_by_log_L2
  exact sb_one (sb_forC (enc := P.told_by_log_E2 log things steps strict many one) (j0 := (jother, jway)) (RT := RT_told_by_log) (i_rng1 (e_var rfl)) rfl (stepNC (fun s j d => R.told_by_log_L1 log things steps strict many one d j.1 j.2)) (fun d t h => ⟨t, rfl, h⟩) (fun v jj => sb_nil ⟨(some (.p one), jj.1, jj.2), .inl rfl⟩))
def P.told_by_log_E3 (log : D) (things : D) (steps : D) (strict : D) (many : D) (jone_2 : Option T) (jother_4 : Option T) (jway_4 : Option T) (reach : D) (s : (D) × (List D)) (j : Option T) : En := [some (.p log), some (.p things), some (.p steps), some (.p strict), some (.p many), jone_2, jother_4, jway_4, some (.p reach), some (.p s.1), some (own1 s.2), j, none, none]
def P.told_by_log_L3 (reach : D) (things : D) (left_2 : D) (levels_2 : List D) : Option ((D) × (List D)) := (xlc (fun k_2 => xflt (xbool (xf1 allT (xmap (fun j_v => xmor (xdninD (xop idxT (some reach) (some j_v)) (some k_2)) (xdinD (xop idxT (some reach) (some k_2)) (some j_v))) (iseq (some left_2))))) (some k_2)) (iseq (some left_2))).bind fun first => (xmap (fun k_3 => xop idxT (some things) (some k_3)) (iseq (some first))).bind fun y => (apd levels_2 y).bind fun levels_3 => (xlc (fun k_4 => xflt (xbool (xop notInT (some k_4) (some first))) (some k_4)) (iseq (some left_2))).bind fun left_3 => some ((left_3, levels_3))
theorem R.told_by_log_L3 (log : D) (things : D) (steps : D) (strict : D) (many : D) (jone_2 : Option T) (jother_4 : Option T) (jway_4 : Option T) (reach : D) (left_2 : D) (levels_2 : List D) (jfirst : Option T) : SB Q.told_by_log_L3 [some (.p log), some (.p things), some (.p steps), some (.p strict), some (.p many), jone_2, jother_4, jway_4, some (.p reach), some (.p left_2), some (own1 levels_2), jfirst, none, none] (P.told_by_log_L3 reach things left_2 levels_2) (ZN (P.told_by_log_E3 log things steps strict many jone_2 jother_4 jway_4 reach)) := by
  unfold Q.told_by_log_L3 P.told_by_log_L3
  exact sb_set (e_lc (i_seqB (EG.w (e_var rfl))) (fun k_2 => ⟨b_val (e_f1 (e_map (i_seqB (EG.w (e_var rfl))) (fun j_v => e_or (e_dninD (e_op (e_var rfl) (e_var rfl)) (e_var rfl)) (e_dinD (e_op (e_var rfl) (e_var rfl)) (e_var rfl))))), e_var rfl⟩)) (fun first => show SB _ [some (.p log), some (.p things), some (.p steps), some (.p strict), some (.p many), jone_2, jother_4, jway_4, some (.p reach), some (.p left_2), some (own1 levels_2), some (.p first), none, none] _ _ from sb_append rfl rfl (e_map (i_seqB (EG.w (e_var rfl))) (fun k_3 => e_op (e_var rfl) (e_var rfl))) (fun levels_3 => show SB _ [some (.p log), some (.p things), some (.p steps), some (.p strict), some (.p many), jone_2, jother_4, jway_4, some (.p reach), some (.p left_2), some (own1 levels_3), some (.p first), none, none] _ _ from sb_one (sb_set (e_lc (i_seqB (EG.w (e_var rfl))) (fun k_4 => ⟨b_op (e_op (e_var rfl) (e_var rfl)), e_var rfl⟩)) (fun left_3 => sb_nil ⟨some (.p first), .inl rfl⟩))))
def P.told_by_log_C3 (left_2 : D) (levels_2 : List D) : Option Bool := xbool (xop M.neT (some left_2) (xlst []))
def P.told_by_log (log : D) : Option (D) := (ap1 P.things_in (some log)).bind fun things => (ap2 P.log_ways (some log) (some things)).bind fun d => un2 d fun steps strict => (xf1 lenT (some things)).bind fun many => (irng1 (some many)).bind fun ds => aft (foldC (fun s d => P.told_by_log_L2 many strict steps things d) ds (())) (fun d => d) fun v_2 => (xmap (fun one_2 => ap2 P.reached_from (some steps) (some one_2)) (irng1 (some many))).bind fun reach => (xlistR (some many)).bind fun left => (xseq []).bind fun levels => (whl (fun s => P.told_by_log_C3 s.1 s.2) (fun s => P.told_by_log_L3 reach things s.1 s.2) FUEL ((left, levels))).bind fun v_3 => xtup [some (.str "levels"), some ((.list v_3.2))]
theorem R.told_by_log (log : D) : FR (RT_told_by_log) (Q.told_by_log [.p log]) (P.told_by_log log) := by
  unfold Q.told_by_log P.told_by_log
  exact run_fr (show SB _ [some (.p log), none, none, none, none, none, none, none, none, none, none, none, none, none] _ _ from sb_set (e_call1 (e_var rfl) fz_p (fun a => FR.ps (R.things_in a))) (fun things => show SB _ [some (.p log), some (.p things), none, none, none, none, none, none, none, none, none, none, none, none] _ _ from sb_asg2 (e_call2 (e_var rfl) (e_var rfl) fz_p fz_p (fun a b => FR.ps (R.log_ways a b))) (fun steps strict => show SB _ [some (.p log), some (.p things), some (.p steps), some (.p strict), none, none, none, none, none, none, none, none, none, none] _ _ from sb_set (e_f1 (e_var rfl)) (fun many => show SB _ [some (.p log), some (.p things), some (.p steps), some (.p strict), some (.p many), none, none, none, none, none, none, none, none, none] _ _ from sb_forC (enc := P.told_by_log_E1 log things steps strict many) (j0 := (none, none, none)) (RT := RT_told_by_log) (i_rng1 (e_var rfl)) rfl (stepNC (fun s j d => R.told_by_log_L2 log things steps strict many d j.1 j.2.1 j.2.2)) (fun d t h => .inl ⟨t, rfl, h⟩) (fun v_2 jj_3 => show SB _ [some (.p log), some (.p things), some (.p steps), some (.p strict), some (.p many), jj_3.1, jj_3.2.1, jj_3.2.2, none, none, none, none, none, none] _ _ from sb_set (e_map (i_rng1 (e_var rfl)) (fun one_2 => e_call2 (e_var rfl) (e_var rfl) fz_p fz_p (fun a b => R.reached_from a b))) (fun reach => show SB _ [some (.p log), some (.p things), some (.p steps), some (.p strict), some (.p many), jj_3.1, jj_3.2.1, jj_3.2.2, some (.p reach), none, none, none, none, none] _ _ from sb_set (e_listR (e_var rfl)) (fun left => show SB _ [some (.p log), some (.p things), some (.p steps), some (.p strict), some (.p many), jj_3.1, jj_3.2.1, jj_3.2.2, some (.p reach), some (.p left), none, none, none, none] _ _ from sb_setF (f_lst (a_nil)) (fun levels => show SB _ [some (.p log), some (.p things), some (.p steps), some (.p strict), some (.p many), jj_3.1, jj_3.2.1, jj_3.2.2, some (.p reach), some (.p left), some (own1 levels), none, none, none] _ _ from sb_whl (enc := P.told_by_log_E3 log things steps strict many jj_3.1 jj_3.2.1 jj_3.2.2 reach) (j0 := none) rfl (fun s j => by unfold P.told_by_log_C3; exact b_op (e_op (e_var rfl) (e_lst (a_nil)))) (fun s j => R.told_by_log_L3 log things steps strict many jj_3.1 jj_3.2.1 jj_3.2.2 reach s.1 s.2 j) (fun v_3 jj_2 => show SB _ [some (.p log), some (.p things), some (.p steps), some (.p strict), some (.p many), jj_3.1, jj_3.2.1, jj_3.2.2, some (.p reach), some (.p v_3.1), some (own1 v_3.2), jj_2, none, none] _ _ from sb_frz rfl (snap_own1 _) (sb_one (sb_ret0 (e_tup (a_cons (e_c) (a_cons (e_var rfl) (a_nil)))) (fun d => .inl ⟨_, rfl, rfl⟩))))))))))))
abbrev RT_without := RTp
def P.without (book : D) (numbers : D) : Option (D) := xlc (fun d => un2 d fun k buying => xflt (xbool (xop notInT (some k) (some numbers))) (some buying)) (ienum (some book))
theorem R.without (book : D) (numbers : D) : FR (RT_without) (Q.without [.p book, .p numbers]) (P.without book numbers) := by
  unfold Q.without P.without
  exact run_fr (show SB _ [some (.p book), some (.p numbers), none, none] _ _ from sb_one (sb_ret0 (e_lc2 (i_enum (e_var rfl)) (fun k buying => ⟨b_op (e_op (e_var rfl) (e_var rfl)), e_var rfl⟩)) (fun d => .inl ⟨_, rfl, rfl⟩)))
abbrev RT_cost := RTp
def P.cost (book : D) (one : D) (other : D) : Option (D) := (ap2 P.need_number (some book) (some one)).bind fun _ => (ap2 P.need_number (some book) (some other)).bind fun _ => ap2 P.cost_at (xop idxT (xop idxT (some book) (some one)) (some (.int 0))) (xop idxT (xop idxT (some book) (some other)) (some (.int 1)))
theorem R.cost (book : D) (one : D) (other : D) : FR (RT_cost) (Q.cost [.p book, .p one, .p other]) (P.cost book one other) := by
  unfold Q.cost P.cost
  exact run_fr (show SB _ [some (.p book), some (.p one), some (.p other)] _ _ from sb_expr (e_call2 (e_var rfl) (e_var rfl) fz_p fz_p (fun a b => FR.ps (R.need_number a b))) (show SB _ [some (.p book), some (.p one), some (.p other)] _ _ from sb_expr (e_call2 (e_var rfl) (e_var rfl) fz_p fz_p (fun a b => FR.ps (R.need_number a b))) (show SB _ [some (.p book), some (.p one), some (.p other)] _ _ from sb_one (sb_ret0 (e_call2 (e_op (e_op (e_var rfl) (e_var rfl)) (e_c)) (e_op (e_op (e_var rfl) (e_var rfl)) (e_c)) fz_p fz_p (fun a b => R.cost_at a b)) (fun d => .inl ⟨_, rfl, rfl⟩)))))
def P.law_mixed (x0 : D) (x1 : D) : Option D := qc Q.law_mixed [.p x0, .p x1]
theorem R.law_mixed (x0 : D) (x1 : D) : FR RTs (Q.law_mixed [.p x0, .p x1]) (P.law_mixed x0 x1) := fr_qc rfl
def P.law_a_log (x0 : List Int) (x1 : D) (x2 : D) : Option D := qc Q.law_a_log [.sc x0, .p x1, .p x2]
theorem R.law_a_log (x0 : List Int) (x1 : D) (x2 : D) : FR RTs (Q.law_a_log [.sc x0, .p x1, .p x2]) (P.law_a_log x0 x1 x2) := fr_qc rfl
abbrev RT_law_offered := RTp
def P.law_offered_E1 (log : D) (s : D) (j : (Option T) × (Option T)) : En := [some (.p log), some (.p s), j.1, j.2, none]
def P.law_offered_L1 (found_2 : D) (offers : D) (taken : D) : Option (D) := (xop addT (some found_2) (xlc (fun one => xflt (xbool (xop notInT (some one) (some found_2))) (some one)) (iseq (some offers)))).bind fun found_3 => some found_3
theorem R.law_offered_L1 (log : D) (found_2 : D) (offers : D) (taken : D) (joffers : Option T) (jtaken : Option T) : SB Q.law_offered_L1 [some (.p log), some (.p found_2), some (.p offers), some (.p taken), none] (P.law_offered_L1 found_2 offers taken) (ZN (P.law_offered_E1 log)) := by
  unfold Q.law_offered_L1 P.law_offered_L1
  exact sb_one (sb_set (e_op (e_var rfl) (e_lc (i_seqB (EG.w (e_var rfl))) (fun one => ⟨b_op (e_op (e_var rfl) (e_var rfl)), e_var rfl⟩))) (fun found_3 => sb_nil ⟨(some (.p offers), some (.p taken)), .inl rfl⟩))
def P.law_offered (log : D) : Option (D) := (xlst []).bind fun found => (iseq (some log)).bind fun ds => (fold (fun s d => un2 d fun x y => P.law_offered_L1 s x y) ds found).bind fun found_4 => xf1 sortedT (some found_4)
theorem R.law_offered (log : D) : FR (RT_law_offered) (Q.law_offered [.p log]) (P.law_offered log) := by
  unfold Q.law_offered P.law_offered
  exact run_fr (show SB _ [some (.p log), none, none, none, none] _ _ from sb_set (e_lst (a_nil)) (fun found => show SB _ [some (.p log), some (.p found), none, none, none] _ _ from sb_for (enc := P.law_offered_E1 log) (j0 := (none, none)) (i_seq (e_var rfl)) rfl (step2 (fun s j x y => R.law_offered_L1 log s x y j.1 j.2)) (fun found_4 jj => show SB _ [some (.p log), some (.p found_4), jj.1, jj.2, none] _ _ from sb_one (sb_ret0 (e_f1 (e_var rfl)) (fun d => .inl ⟨_, rfl, rfl⟩)))))
abbrev RT_law_explains_2 := RTp
def P.law_explains_2_E1 (log : D) (levels : D) (s : D) (j : Option T) : En := [some (.p log), some (.p levels), some (.p s), j, none, none, none, none, none, none, none, none]
def P.law_explains_2_L1 (things_2 : D) (level : D) : Option (Ct (D) (D)) := xif (xor' (xbool (xop M.eqT (some level) (xlst []))) (xor' (xbool (xop M.neT (some level) (xf1 sortAnyT (some level)))) (xbool (xop M.neT (xf1 lenSetT (some level)) (xf1 lenT (some level)))))) ((some (.bool false)).map .rt) ((xop addT (some things_2) (xf1 listT (some level))).bind fun things_3 => some (.nx things_3))
theorem R.law_explains_2_L1 (log : D) (levels : D) (things_2 : D) (level : D) (jlevel : Option T) : SB Q.law_explains_2_L1 [some (.p log), some (.p levels), some (.p things_2), some (.p level), none, none, none, none, none, none, none, none] (P.law_explains_2_L1 things_2 level) (ZC RT_law_explains_2 (P.law_explains_2_E1 log levels)) := by
  unfold Q.law_explains_2_L1 P.law_explains_2_L1
  exact sb_if (b_or (b_op (e_op (e_var rfl) (e_lst (a_nil)))) (b_or (b_op (e_op (e_var rfl) (e_f1 (e_var rfl)))) (b_op (e_op (e_f1 (e_var rfl)) (e_f1 (e_var rfl)))))) (sb_ret (k := Ct.rt) (e_c) (fun d => ⟨_, rfl, rfl⟩)) (sb_skip (show SB _ [some (.p log), some (.p levels), some (.p things_2), some (.p level), none, none, none, none, none, none, none, none] _ _ from sb_one (sb_set (e_op (e_var rfl) (e_f1 (e_var rfl))) (fun things_3 => sb_nil ⟨some (.p level), .inl rfl⟩))))
def P.law_explains_2_E2 (log : D) (levels : D) (things_4 : D) (jlevel_2 : Option T) (s : Unit) (j : (Option T) × (Option T) × (Option T) × (Option T) × (Option T) × (Option T)) : En := [some (.p log), some (.p levels), some (.p things_4), jlevel_2, j.1, j.2.1, j.2.2.1, j.2.2.2.1, j.2.2.2.2.1, j.2.2.2.2.2, none, none]
def P.law_explains_2_E3 (log : D) (levels : D) (things_4 : D) (jlevel_2 : Option T) (offers : D) (taken : D) (jfirst : Option T) (jbest : Option T) (s : List D) (j : Option T) : En := [some (.p log), some (.p levels), some (.p things_4), jlevel_2, some (.p offers), some (.p taken), some (own1 s), j, jfirst, jbest, none, none]
def P.law_explains_2_L2 (levels : D) (places_2 : List D) (one : D) : Option (List D) := (xop idxT (xlc (fun k => xflt (xbool (xop inT (some one) (xop idxT (some levels) (some k)))) (some k)) (irng1 (xf1 lenT (some levels)))) (some (.int 0))).bind fun y => (apd places_2 y).bind fun places_3 => some places_3
theorem R.law_explains_2_L2 (log : D) (levels : D) (things_4 : D) (jlevel_2 : Option T) (offers : D) (taken : D) (jfirst : Option T) (jbest : Option T) (places_2 : List D) (one : D) (jone_2 : Option T) : SB Q.law_explains_2_L2 [some (.p log), some (.p levels), some (.p things_4), jlevel_2, some (.p offers), some (.p taken), some (own1 places_2), some (.p one), jfirst, jbest, none, none] (P.law_explains_2_L2 levels places_2 one) (ZN (P.law_explains_2_E3 log levels things_4 jlevel_2 offers taken jfirst jbest)) := by
  unfold Q.law_explains_2_L2 P.law_explains_2_L2
  exact sb_one (sb_append rfl rfl (e_op (e_lc (i_rng1 (e_f1 (e_var rfl))) (fun k => ⟨b_op (e_op (e_var rfl) (e_op (e_var rfl) (e_var rfl))), e_var rfl⟩)) (e_c)) (fun places_3 => sb_nil ⟨some (.p one), .inl rfl⟩))
def P.law_explains_2_L3 (levels : D) (offers : D) (taken : D) : Option (Ct (Unit) (D)) := (xseq []).bind fun places => (iseq (some offers)).bind fun ds => (fold (fun s d => P.law_explains_2_L2 levels s d) ds places).bind fun places_4 => (xf1 minT (some ((.list places_4)))).bind fun first => (xlc (fun d => un2 d fun one_2 place => xflt (xbool (xop M.eqT (some place) (some first))) (some one_2)) (izipM (some offers) (some ((.list places_4))))).bind fun best => xif (xbool (xop M.neT (xf1 sortAnyT (some best)) (xf1 sortAnyT (some taken)))) ((some (.bool false)).map .rt) (some (.nx (())))
theorem R.law_explains_2_L3 (log : D) (levels : D) (things_4 : D) (jlevel_2 : Option T) (offers : D) (taken : D) (joffers : Option T) (jtaken : Option T) (jplaces : Option T) (jone : Option T) (jfirst : Option T) (jbest : Option T) : SB Q.law_explains_2_L3 [some (.p log), some (.p levels), some (.p things_4), jlevel_2, some (.p offers), some (.p taken), jplaces, jone, jfirst, jbest, none, none] (P.law_explains_2_L3 levels offers taken) (ZC RT_law_explains_2 (P.law_explains_2_E2 log levels things_4 jlevel_2)) := by
  unfold Q.law_explains_2_L3 P.law_explains_2_L3
  exact sb_setF (f_lst (a_nil)) (fun places => show SB _ [some (.p log), some (.p levels), some (.p things_4), jlevel_2, some (.p offers), some (.p taken), some (own1 places), jone, jfirst, jbest, none, none] _ _ from sb_for (enc := P.law_explains_2_E3 log levels things_4 jlevel_2 offers taken jfirst jbest) (j0 := jone) (i_seq (e_var rfl)) rfl (stepN (fun s j d => R.law_explains_2_L2 log levels things_4 jlevel_2 offers taken jfirst jbest s d j)) (fun places_4 jj => show SB _ [some (.p log), some (.p levels), some (.p things_4), jlevel_2, some (.p offers), some (.p taken), some (own1 places_4), jj, jfirst, jbest, none, none] _ _ from sb_frz rfl (snap_own1 _) (sb_set (e_f1 (e_var rfl)) (fun first => show SB _ [some (.p log), some (.p levels), some (.p things_4), jlevel_2, some (.p offers), some (.p taken), some (.p ((.list places_4))), jj, some (.p first), jbest, none, none] _ _ from sb_set (e_lc2 (i_zipM (e_var rfl) (e_var rfl)) (fun one_2 place => ⟨b_op (e_op (e_var rfl) (e_var rfl)), e_var rfl⟩)) (fun best => show SB _ [some (.p log), some (.p levels), some (.p things_4), jlevel_2, some (.p offers), some (.p taken), some (.p ((.list places_4))), jj, some (.p first), some (.p best), none, none] _ _ from sb_one (sb_if (b_op (e_op (e_f1 (e_var rfl)) (e_f1 (e_var rfl)))) (sb_ret (k := Ct.rt) (e_c) (fun d => ⟨_, rfl, rfl⟩)) (sb_skip (sb_nil ⟨(some (.p offers), some (.p taken), some (.p ((.list places_4))), jj, some (.p first), some (.p best)), .inl rfl⟩))))))))
def P.law_explains_2 (log : D) (levels : D) : Option (D) := (xlst []).bind fun things => (iseq (some levels)).bind fun ds => aft (foldC (fun s d => P.law_explains_2_L1 s d) ds things) (fun d => d) fun things_4 => xif (xbool (xop M.neT (xf1 sortAnyT (some things_4)) (ap1 P.law_offered (some log)))) (some (.bool false)) ((iseq (some log)).bind fun ds => aft (foldC (fun s d => un2 d fun x y => P.law_explains_2_L3 levels x y) ds (())) (fun d => d) fun v => some (.bool true))
theorem R.law_explains_2 (log : D) (levels : D) : FR (RT_law_explains_2) (Q.law_explains_2 [.p log, .p levels]) (P.law_explains_2 log levels) := by
  unfold Q.law_explains_2 P.law_explains_2
  exact run_fr (show SB _ [some (.p log), some (.p levels), none, none, none, none, none, none, none, none, none, none] _ _ from sb_set (e_lst (a_nil)) (fun things => show SB _ [some (.p log), some (.p levels), some (.p things), none, none, none, none, none, none, none, none, none] _ _ from sb_forC (enc := P.law_explains_2_E1 log levels) (j0 := none) (RT := RT_law_explains_2) (i_seq (e_var rfl)) rfl (stepNC (fun s j d => R.law_explains_2_L1 log levels s d j)) (fun d t h => .inl ⟨t, rfl, h⟩) (fun things_4 jj_3 => show SB _ [some (.p log), some (.p levels), some (.p things_4), jj_3, none, none, none, none, none, none, none, none] _ _ from sb_if (b_op (e_op (e_f1 (e_var rfl)) (e_call1 (e_var rfl) fz_p (fun a => FR.ps (R.law_offered a))))) (sb_ret0 (e_c) (fun d => .inl ⟨_, rfl, rfl⟩)) (sb_skip (show SB _ [some (.p log), some (.p levels), some (.p things_4), jj_3, none, none, none, none, none, none, none, none] _ _ from sb_forC (enc := P.law_explains_2_E2 log levels things_4 jj_3) (j0 := (none, none, none, none, none, none)) (RT := RT_law_explains_2) (i_seq (e_var rfl)) rfl (step2C (fun s j x y => R.law_explains_2_L3 log levels things_4 jj_3 x y j.1 j.2.1 j.2.2.1 j.2.2.2.1 j.2.2.2.2.1 j.2.2.2.2.2)) (fun d t h => .inl ⟨t, rfl, h⟩) (fun v jj_2 => show SB _ [some (.p log), some (.p levels), some (.p things_4), jj_3, jj_2.1, jj_2.2.1, jj_2.2.2.1, jj_2.2.2.2.1, jj_2.2.2.2.2.1, jj_2.2.2.2.2.2, none, none] _ _ from sb_one (sb_ret0 (e_c) (fun d => .inl ⟨_, rfl, rfl⟩))))))))
abbrev RT_explains_log := RTp
def P.explains_log_E1 (log : D) (levels : D) (s : D) (j : Option T) : En := [some (.p log), some (.p levels), some (.p s), j, none, none, none, none]
def P.explains_log_L1 (things_2 : D) (level : D) : Option (Ct (D) (D)) := xif (xor' (xbool (xop M.eqT (some level) (xlst []))) (xbool (xop M.neT (some level) (xf1 sortSetT (some level))))) ((some (.bool false)).map .rt) ((xop addT (some things_2) (some level)).bind fun things_3 => some (.nx things_3))
theorem R.explains_log_L1 (log : D) (levels : D) (things_2 : D) (level : D) (jlevel : Option T) : SB Q.explains_log_L1 [some (.p log), some (.p levels), some (.p things_2), some (.p level), none, none, none, none] (P.explains_log_L1 things_2 level) (ZC RT_explains_log (P.explains_log_E1 log levels)) := by
  unfold Q.explains_log_L1 P.explains_log_L1
  exact sb_if (b_or (b_op (e_op (e_var rfl) (e_lst (a_nil)))) (b_op (e_op (e_var rfl) (e_f1 (e_var rfl))))) (sb_ret (k := Ct.rt) (e_c) (fun d => ⟨_, rfl, rfl⟩)) (sb_skip (show SB _ [some (.p log), some (.p levels), some (.p things_2), some (.p level), none, none, none, none] _ _ from sb_one (sb_set (e_op (e_var rfl) (e_var rfl)) (fun things_3 => sb_nil ⟨some (.p level), .inl rfl⟩))))
def P.explains_log_E2 (log : D) (levels : D) (things_4 : D) (jlevel_2 : Option T) (s : Unit) (j : (Option T) × (Option T) × (Option T)) : En := [some (.p log), some (.p levels), some (.p things_4), jlevel_2, j.1, j.2.1, j.2.2, none]
def P.explains_log_L2 (levels : D) (offers : D) (taken : D) : Option (Ct (Unit) (D)) := (xop idxT (xlc (fun level_2 => xflt (xbool (xop M.neT (xlc (fun one => xflt (xbool (xop inT (some one) (some offers))) (some one)) (iseq (some level_2))) (xlst []))) (some level_2)) (iseq (some levels))) (some (.int 0))).bind fun first => xif (xbool (xop M.neT (xf1 sortAnyT (some taken)) (xlc (fun one_2 => xflt (xbool (xop inT (some one_2) (some offers))) (some one_2)) (iseq (some first))))) ((some (.bool false)).map .rt) (some (.nx (())))
theorem R.explains_log_L2 (log : D) (levels : D) (things_4 : D) (jlevel_2 : Option T) (offers : D) (taken : D) (joffers : Option T) (jtaken : Option T) (jfirst : Option T) : SB Q.explains_log_L2 [some (.p log), some (.p levels), some (.p things_4), jlevel_2, some (.p offers), some (.p taken), jfirst, none] (P.explains_log_L2 levels offers taken) (ZC RT_explains_log (P.explains_log_E2 log levels things_4 jlevel_2)) := by
  unfold Q.explains_log_L2 P.explains_log_L2
  exact sb_set (e_op (e_lc (i_seqB (EG.w (e_var rfl))) (fun level_2 => ⟨b_op (e_op (e_lc (i_seqB (EG.w (e_var rfl))) (fun one => ⟨b_op (e_op (e_var rfl) (e_var rfl)), e_var rfl⟩)) (e_lst (a_nil))), e_var rfl⟩)) (e_c)) (fun first => show SB _ [some (.p log), some (.p levels), some (.p things_4), jlevel_2, some (.p offers), some (.p taken), some (.p first), none] _ _ from sb_one (sb_if (b_op (e_op (e_f1 (e_var rfl)) (e_lc (i_seqB (EG.w (e_var rfl))) (fun one_2 => ⟨b_op (e_op (e_var rfl) (e_var rfl)), e_var rfl⟩)))) (sb_ret (k := Ct.rt) (e_c) (fun d => ⟨_, rfl, rfl⟩)) (sb_skip (sb_nil ⟨(some (.p offers), some (.p taken), some (.p first)), .inl rfl⟩))))
def P.explains_log (log : D) (levels : D) : Option (D) := (xlst []).bind fun things => (iseq (some levels)).bind fun ds => aft (foldC (fun s d => P.explains_log_L1 s d) ds things) (fun d => d) fun things_4 => xif (xbool (xop M.neT (xf1 sortAnyT (some things_4)) (ap1 P.things_in (some log)))) (some (.bool false)) ((iseq (some log)).bind fun ds => aft (foldC (fun s d => un2 d fun x y => P.explains_log_L2 levels x y) ds (())) (fun d => d) fun v => some (.bool true))
theorem R.explains_log (log : D) (levels : D) : FR (RT_explains_log) (Q.explains_log [.p log, .p levels]) (P.explains_log log levels) := by
  unfold Q.explains_log P.explains_log
  exact run_fr (show SB _ [some (.p log), some (.p levels), none, none, none, none, none, none] _ _ from sb_set (e_lst (a_nil)) (fun things => show SB _ [some (.p log), some (.p levels), some (.p things), none, none, none, none, none] _ _ from sb_forC (enc := P.explains_log_E1 log levels) (j0 := none) (RT := RT_explains_log) (i_seq (e_var rfl)) rfl (stepNC (fun s j d => R.explains_log_L1 log levels s d j)) (fun d t h => .inl ⟨t, rfl, h⟩) (fun things_4 jj_2 => show SB _ [some (.p log), some (.p levels), some (.p things_4), jj_2, none, none, none, none] _ _ from sb_if (b_op (e_op (e_f1 (e_var rfl)) (e_call1 (e_var rfl) fz_p (fun a => FR.ps (R.things_in a))))) (sb_ret0 (e_c) (fun d => .inl ⟨_, rfl, rfl⟩)) (sb_skip (show SB _ [some (.p log), some (.p levels), some (.p things_4), jj_2, none, none, none, none] _ _ from sb_forC (enc := P.explains_log_E2 log levels things_4 jj_2) (j0 := (none, none, none)) (RT := RT_explains_log) (i_seq (e_var rfl)) rfl (step2C (fun s j x y => R.explains_log_L2 log levels things_4 jj_2 x y j.1 j.2.1 j.2.2)) (fun d t h => .inl ⟨t, rfl, h⟩) (fun v jj => show SB _ [some (.p log), some (.p levels), some (.p things_4), jj_2, jj.1, jj.2.1, jj.2.2, none] _ _ from sb_one (sb_ret0 (e_c) (fun d => .inl ⟨_, rfl, rfl⟩))))))))
abbrev RT_law_bars_2 := RTp
def P.law_bars_2_E1 (log : D) (things : D) (known : D) (s : D) (j : (Option T) × (Option T) × (Option T) × (Option T)) : En := [some (.p log), some (.p things), some (.p known), some (.p s), j.1, j.2.1, j.2.2.1, j.2.2.2, none, none]
def P.law_bars_2_L1 (things : D) (log : D) (strict_2 : D) (k : D) : Option (Ct (D) (D)) := (xop idxT (some things) (xop subT (some k) (some (.int 1)))).bind fun one_2 => (xop idxT (some things) (some k)).bind fun other => (xlc (fun d => un2 d fun offers taken => xflt (xand (xbool (xop inT (some one_2) (some taken))) (xbool (xop inT (some other) (some offers)))) (some taken)) (iseq (some log))).bind fun some_v => xif (xbool (xop M.eqT (some some_v) (xlst []))) ((some (.bool false)).map .rt) ((xmor (some strict_2) (xop M.neT (xlc (fun taken_2 => xflt (xbool (xop notInT (some other) (some taken_2))) (some taken_2)) (iseq (some some_v))) (xlst []))).bind fun strict_3 => some (.nx strict_3))
theorem R.law_bars_2_L1 (log : D) (things : D) (known : D) (strict_2 : D) (k : D) (jk : Option T) (jone : Option T) (jother : Option T) (jsome : Option T) : SB Q.law_bars_2_L1 [some (.p log), some (.p things), some (.p known), some (.p strict_2), some (.p k), jone, jother, jsome, none, none] (P.law_bars_2_L1 things log strict_2 k) (ZC RT_law_bars_2 (P.law_bars_2_E1 log things known)) := by
  unfold Q.law_bars_2_L1 P.law_bars_2_L1
  exact sb_set (e_op (e_var rfl) (e_op (e_var rfl) (e_c))) (fun one_2 => show SB _ [some (.p log), some (.p things), some (.p known), some (.p strict_2), some (.p k), some (.p one_2), jother, jsome, none, none] _ _ from sb_set (e_op (e_var rfl) (e_var rfl)) (fun other => show SB _ [some (.p log), some (.p things), some (.p known), some (.p strict_2), some (.p k), some (.p one_2), some (.p other), jsome, none, none] _ _ from sb_set (e_lc2 (i_seqB (EG.w (e_var rfl))) (fun offers taken => ⟨b_and (b_op (e_op (e_var rfl) (e_var rfl))) (b_op (e_op (e_var rfl) (e_var rfl))), e_var rfl⟩)) (fun some_v => show SB _ [some (.p log), some (.p things), some (.p known), some (.p strict_2), some (.p k), some (.p one_2), some (.p other), some (.p some_v), none, none] _ _ from sb_if (b_op (e_op (e_var rfl) (e_lst (a_nil)))) (sb_ret (k := Ct.rt) (e_c) (fun d => ⟨_, rfl, rfl⟩)) (sb_skip (show SB _ [some (.p log), some (.p things), some (.p known), some (.p strict_2), some (.p k), some (.p one_2), some (.p other), some (.p some_v), none, none] _ _ from sb_one (sb_set (e_or (e_var rfl) (e_op (e_lc (i_seqB (EG.w (e_var rfl))) (fun taken_2 => ⟨b_op (e_op (e_var rfl) (e_var rfl)), e_var rfl⟩)) (e_lst (a_nil)))) (fun strict_3 => sb_nil ⟨(some (.p k), some (.p one_2), some (.p other), some (.p some_v)), .inl rfl⟩)))))))
def P.law_bars_2 (log : D) (things : D) : Option (D) := (ap1 P.law_offered (some log)).bind fun known => xif (xor' (xbool (xop ltT (xf1 lenT (some things)) (some (.int 2)))) (xbool (xop M.neT (xf1 lenSetT (some things)) (xf1 lenT (some things))))) (some (.bool false)) (xif (xbool (xop M.neT (xlc (fun one => xflt (xbool (xop notInT (some one) (some known))) (some one)) (iseq (some things))) (xlst []))) (some (.bool false)) ((some (.bool false)).bind fun strict => (irng1 (xf1 lenT (some things))).bind fun ds => aft (foldC (fun s d => P.law_bars_2_L1 things log s d) ds strict) (fun d => d) fun strict_4 => some strict_4))
theorem R.law_bars_2 (log : D) (things : D) : FR (RT_law_bars_2) (Q.law_bars_2 [.p log, .p things]) (P.law_bars_2 log things) := by
  unfold Q.law_bars_2 P.law_bars_2
  exact run_fr (show SB _ [some (.p log), some (.p things), none, none, none, none, none, none, none, none] _ _ from sb_set (e_call1 (e_var rfl) fz_p (fun a => FR.ps (R.law_offered a))) (fun known => show SB _ [some (.p log), some (.p things), some (.p known), none, none, none, none, none, none, none] _ _ from sb_if (b_or (b_op (e_op (e_f1 (e_var rfl)) (e_c))) (b_op (e_op (e_f1 (e_var rfl)) (e_f1 (e_var rfl))))) (sb_ret0 (e_c) (fun d => .inl ⟨_, rfl, rfl⟩)) (sb_skip (show SB _ [some (.p log), some (.p things), some (.p known), none, none, none, none, none, none, none] _ _ from sb_if (b_op (e_op (e_lc (i_seqB (EG.w (e_var rfl))) (fun one => ⟨b_op (e_op (e_var rfl) (e_var rfl)), e_var rfl⟩)) (e_lst (a_nil)))) (sb_ret0 (e_c) (fun d => .inl ⟨_, rfl, rfl⟩)) (sb_skip (show SB _ [some (.p log), some (.p things), some (.p known), none, none, none, none, none, none, none] _ _ from sb_set (e_c) (fun strict => show SB _ [some (.p log), some (.p things), some (.p known), some (.p strict), none, none, none, none, none, none] _ _ from sb_forC (enc := P.law_bars_2_E1 log things known) (j0 := (none, none, none, none)) (RT := RT_law_bars_2) (i_rng1 (e_f1 (e_var rfl))) rfl (stepNC (fun s j d => R.law_bars_2_L1 log things known s d j.1 j.2.1 j.2.2.1 j.2.2.2)) (fun d t h => .inl ⟨t, rfl, h⟩) (fun strict_4 jj => show SB _ [some (.p log), some (.p things), some (.p known), some (.p strict_4), jj.1, jj.2.1, jj.2.2.1, jj.2.2.2, none, none] _ _ from sb_one (sb_retV rfl (.inl ⟨_, rfl, rfl⟩))))))))))
abbrev RT_steps_of := RTp
def P.steps_of (numbers : D) : Option (D) := xmap (fun k => xtup [xop idxT (some numbers) (some k), xop idxT (some numbers) (xop modT (xop addT (some k) (some (.int 1))) (xf1 lenT (some numbers)))]) (irng1 (xf1 lenT (some numbers)))
theorem R.steps_of (numbers : D) : FR (RT_steps_of) (Q.steps_of [.p numbers]) (P.steps_of numbers) := by
  unfold Q.steps_of P.steps_of
  exact run_fr (show SB _ [some (.p numbers), none] _ _ from sb_one (sb_ret0 (e_map (i_rng1 (e_f1 (e_var rfl))) (fun k => e_tup (a_cons (e_op (e_var rfl) (e_var rfl)) (a_cons (e_op (e_var rfl) (e_op (e_op (e_var rfl) (e_c)) (e_f1 (e_var rfl)))) (a_nil))))) (fun d => .inl ⟨_, rfl, rfl⟩)))
abbrev RT_bars_log := RTp
def P.bars_log (log : D) (things : D) : Option (D) := (ap1 P.things_in (some log)).bind fun known => xif (xor' (xbool (xop ltT (xf1 lenT (some things)) (some (.int 2)))) (xor' (xbool (xop M.neT (xf1 lenSetT (some things)) (xf1 lenT (some things)))) (xnot (xbool (xf1 allT (xmap (fun one => xop inT (some one) (some known)) (iseq (some things)))))))) (some (.bool false)) ((ap2 P.log_ways (some log) (some known)).bind fun d => un2 d fun steps strict => (xmap (fun d => un2 d fun one_2 other => xtup [xop idxOfT (some known) (some one_2), xop idxOfT (some known) (some other)]) (iseq (ap1 P.steps_of (some things)))).bind fun pairs => xmand (xf1 allT (xmap (fun d => un2 d fun one_3 other_2 => xop idxT (xop idxT (some steps) (some one_3)) (some other_2)) (iseq (some pairs)))) (xf1 anyT (xmap (fun d => un2 d fun one_4 other_3 => xop idxT (xop idxT (some strict) (some one_4)) (some other_3)) (iseq (some pairs)))))
theorem R.bars_log (log : D) (things : D) : FR (RT_bars_log) (Q.bars_log [.p log, .p things]) (P.bars_log log things) := by
  unfold Q.bars_log P.bars_log
  exact run_fr (show SB _ [some (.p log), some (.p things), none, none, none, none, none, none] _ _ from sb_set (e_call1 (e_var rfl) fz_p (fun a => FR.ps (R.things_in a))) (fun known => show SB _ [some (.p log), some (.p things), some (.p known), none, none, none, none, none] _ _ from sb_if (b_or (b_op (e_op (e_f1 (e_var rfl)) (e_c))) (b_or (b_op (e_op (e_f1 (e_var rfl)) (e_f1 (e_var rfl)))) (b_not (b_val (e_f1 (e_map (i_seqB (EG.w (e_var rfl))) (fun one => e_op (e_var rfl) (e_var rfl)))))))) (sb_ret0 (e_c) (fun d => .inl ⟨_, rfl, rfl⟩)) (sb_skip (show SB _ [some (.p log), some (.p things), some (.p known), none, none, none, none, none] _ _ from sb_asg2 (e_call2 (e_var rfl) (e_var rfl) fz_p fz_p (fun a b => FR.ps (R.log_ways a b))) (fun steps strict => show SB _ [some (.p log), some (.p things), some (.p known), some (.p steps), some (.p strict), none, none, none] _ _ from sb_set (e_map2 (i_seqB (EG.w (e_call1 (e_var rfl) fz_p (fun a => FR.ps (R.steps_of a))))) (fun one_2 other => e_tup (a_cons (e_op (e_var rfl) (e_var rfl)) (a_cons (e_op (e_var rfl) (e_var rfl)) (a_nil))))) (fun pairs => show SB _ [some (.p log), some (.p things), some (.p known), some (.p steps), some (.p strict), some (.p pairs), none, none] _ _ from sb_one (sb_ret0 (e_and (e_f1 (e_map2 (i_seqB (EG.w (e_var rfl))) (fun one_3 other_2 => e_op (e_op (e_var rfl) (e_var rfl)) (e_var rfl)))) (e_f1 (e_map2 (i_seqB (EG.w (e_var rfl))) (fun one_4 other_3 => e_op (e_op (e_var rfl) (e_var rfl)) (e_var rfl))))) (fun d => .inl ⟨_, rfl, rfl⟩))))))))
abbrev RT_law_levels_spoilt := RTs
def P.law_levels_spoilt_E1 (picks : D) (at_v : D) (k : D) (form : D) (s : T) (j : (Option T) × (Option T)) : En := [some s, some (.p picks), some (.p at_v), some (.p k), some (.p form), j.1, j.2, none, none, none]
def P.law_levels_spoilt_E2 (picks : D) (at_v : D) (k : D) (form : D) (xd : T × D) (s : T) (j : Option T) : En := [some s, some (.p picks), some (.p at_v), some (.p k), some (.p form), some (.p xd.2), j, none, none, none]
def P.law_levels_spoilt_E3 (picks : D) (at_v : D) (k : D) (form : D) (jone : Option T) (jother_2 : Option T) (s : T) (j : Unit) : En := [some s, some (.p picks), some (.p at_v), some (.p k), some (.p form), jone, jother_2, none, none, none]
def P.law_levels_spoilt_E4 (picks : D) (at_v : D) (k : D) (form : D) (jone : Option T) (jother_2 : Option T) (s : T) (j : Unit) : En := [some s, some (.p picks), some (.p at_v), some (.p k), some (.p form), jone, jother_2, none, none, none]
def P.law_levels_spoilt_E5 (picks : D) (at_v : D) (k : D) (form : D) (jone : Option T) (jother_2 : Option T) (s : T) (j : Option T) : En := [some s, some (.p picks), some (.p at_v), some (.p k), some (.p form), jone, jother_2, j, none, none]
def P.law_levels_spoilt_E6 (picks : D) (at_v : D) (k : D) (form : D) (jone : Option T) (jother_2 : Option T) (jparts : Option T) (s : T) (j : Option T) : En := [some s, some (.p picks), some (.p at_v), some (.p k), some (.p form), jone, jother_2, jparts, j, none]
def P.law_levels_spoilt_E7 (picks : D) (at_v : D) (k : D) (form : D) (jone : Option T) (jother_2 : Option T) (jparts : Option T) (s : T) (j : Option T) : En := [some s, some (.p picks), some (.p at_v), some (.p k), some (.p form), jone, jother_2, jparts, j, none]
def P.law_levels_spoilt_E8 (picks : D) (at_v : D) (k : D) (form : D) (jone : Option T) (jother_2 : Option T) (jparts : Option T) (jboth_2 : Option T) (s : T) (j : Unit) : En := [some s, some (.p picks), some (.p at_v), some (.p k), some (.p form), jone, jother_2, jparts, jboth_2, none]
def P.law_levels_spoilt_E9 (picks : D) (at_v : D) (k : D) (form : D) (jone : Option T) (jother_2 : Option T) (jparts : Option T) (jboth_2 : Option T) (s : T) (j : Unit) : En := [some s, some (.p picks), some (.p at_v), some (.p k), some (.p form), jone, jother_2, jparts, jboth_2, none]
def P.law_levels_spoilt (levels : D) (picks : D) : Option (D) := (xmap2 (fun level => iseq (some level)) (iseq (some levels))).bind fun levels_2 => (xop modT (xop idxT (some picks) (some (.int 0))) (xlenT ((own2 levels_2)))).bind fun at_v => (xop modT (xop idxT (some picks) (some (.int 1))) (xf1 lenT (xrow ((own2 levels_2)) (some at_v)))).bind fun k => (xop modT (xop idxT (some picks) (some (.int 2))) (some (.int 11))).bind fun form => (xif (xbool (xop ltT (some form) (some (.int 2)))) (((some []).bind fun π => (some at_v).bind fun k => stepP ((own2 levels_2)) k π).bind fun π => (some k).bind fun l => (popPK ((own2 levels_2)) l π).bind fun xd => (xif (xbool (xop M.eqT (some form) (some (.int 0)))) ((xop modT (xop idxT (some picks) (some (.int 3))) (xlenT xd.1)).bind fun other => (some []).bind fun π => (some other).bind fun l => (xf1 sortedT (xop addT (xrow xd.1 (some other)) (xlst [some xd.2]))).bind fun y => (updP xd.1 (seT l y) π).bind fun levels_3 => some levels_3) (some xd.1)).bind fun levels_4 => (T.snap levels_4).bind fun levels_5 => (xlc (fun level_2 => xflt (xbool (xop M.neT (some level_2) (xlst []))) (some level_2)) (iseq (some levels_5))).bind fun levels_6 => some (.p levels_6)) (some (own2 levels_2))).bind fun levels_7 => (xif (xbool (xop M.eqT (some form) (some (.int 2)))) ((some []).bind fun π => (some at_v).bind fun l => (xf1 sortedT (xop addT (xrow levels_7 (some at_v)) (xlst [xop idxT (xrow levels_7 (xop modT (xop idxT (some picks) (some (.int 3))) (xlenT levels_7))) (some (.int 0))]))).bind fun y => (updP levels_7 (seT l y) π).bind fun levels_8 => some levels_8) (some levels_7)).bind fun levels_9 => (xif (xbool (xop M.eqT (some form) (some (.int 3)))) ((some []).bind fun π => (some at_v).bind fun l => (xf1 sortedT (xop addT (xrow levels_9 (some at_v)) (xlst [xop modT (xop idxT (some picks) (some (.int 4))) (some (.int 100))]))).bind fun y => (updP levels_9 (seT l y) π).bind fun levels_10 => some levels_10) (some levels_9)).bind fun levels_11 => (xif (xbool (xop M.eqT (some form) (some (.int 4)))) ((xlc (fun level_3 => xflt (xbool (xop M.neT (some level_3) (xlst []))) (some level_3)) (iseq (xtup [xslice (xrow levels_11 (some at_v)) (some none) (xint (some k)), xslice (xrow levels_11 (some at_v)) (xint (some k)) (some none)]))).bind fun parts => (T.snap levels_11).bind fun levels_12 => (xop addT (xop addT (xslice (some levels_12) (some none) (xint (some at_v))) (some parts)) (xslice (some levels_12) (xint (xop addT (some at_v) (some (.int 1)))) (some none))).bind fun levels_13 => some (.p levels_13)) (some levels_11)).bind fun levels_14 => (xif (xand (xbool (xop M.eqT (some form) (some (.int 5)))) (xbool (xop M.eqT (some at_v) (some (.int 0))))) ((T.snap levels_14).bind fun levels_15 => (xrev (some levels_15)).bind fun levels_16 => some (.p levels_16)) ((xif (xbool (xop M.eqT (some form) (some (.int 5)))) ((xf1 sortedT (xop addT (xrow levels_14 (xop subT (some at_v) (some (.int 1)))) (xrow levels_14 (some at_v)))).bind fun both => (T.snap levels_14).bind fun levels_17 => (xop addT (xop addT (xslice (some levels_17) (some none) (xint (xop subT (some at_v) (some (.int 1))))) (xlst [some both])) (xslice (some levels_17) (xint (xop addT (some at_v) (some (.int 1)))) (some none))).bind fun levels_18 => some (.p levels_18)) (some levels_14)).bind fun levels_19 => some levels_19)).bind fun levels_20 => (xif (xbool (xop M.eqT (some form) (some (.int 6)))) ((some []).bind fun π => (some at_v).bind fun l => (xlst []).bind fun y => (updP levels_20 (inT' l y) π).bind fun levels_21 => some levels_21) (some levels_20)).bind fun levels_22 => (xif (xbool (xop M.eqT (some form) (some (.int 7)))) ((some []).bind fun π => (some at_v).bind fun l => (xrev (xrow levels_22 (some at_v))).bind fun y => (updP levels_22 (seT l y) π).bind fun levels_23 => some levels_23) (some levels_22)).bind fun levels_24 => (T.snap levels_24).map fun d => d
theorem R.law_levels_spoilt (levels : D) (picks : D) : FR (RT_law_levels_spoilt) (Q.law_levels_spoilt [.p levels, .p picks]) (P.law_levels_spoilt levels picks) := by
  unfold Q.law_levels_spoilt P.law_levels_spoilt
  exact run_fr (show SB _ [some (.p levels), some (.p picks), none, none, none, none, none, none, none, none] _ _ from sb_frz rfl (ev_snap) (sb_setF (f_lc2 (i_seqB (EG.w (e_var rfl))) (fun level => f_list (EG.w (e_var rfl)))) (fun levels_2 => show SB _ [some ((own2 levels_2)), some (.p picks), none, none, none, none, none, none, none, none] _ _ from sb_set (e_op (e_op (e_var rfl) (e_c)) (e_lenT rfl)) (fun at_v => show SB _ [some ((own2 levels_2)), some (.p picks), some (.p at_v), none, none, none, none, none, none, none] _ _ from sb_set (e_op (e_op (e_var rfl) (e_c)) (e_f1w v1_len (e_rowT rfl (e_var rfl)))) (fun k => show SB _ [some ((own2 levels_2)), some (.p picks), some (.p at_v), some (.p k), none, none, none, none, none, none] _ _ from sb_set (e_op (e_op (e_var rfl) (e_c)) (e_c)) (fun form => show SB _ [some ((own2 levels_2)), some (.p picks), some (.p at_v), some (.p k), some (.p form), none, none, none, none, none] _ _ from sb_ifJ (enc := P.law_levels_spoilt_E1 picks at_v k form) (b_op (e_op (e_var rfl) (e_c))) (sb_setPopAtT rfl (p_ix rfl (p_var rfl) (e_var rfl)) (e_var rfl) (fun xd => show SB _ [some xd.1, some (.p picks), some (.p at_v), some (.p k), some (.p form), some (.p xd.2), none, none, none, none] _ _ from sb_ifJ (enc := P.law_levels_spoilt_E2 picks at_v k form xd) (b_op (e_op (e_var rfl) (e_c))) (sb_set (e_op (e_op (e_var rfl) (e_c)) (e_lenT rfl)) (fun other => show SB _ [some xd.1, some (.p picks), some (.p at_v), some (.p k), some (.p form), some (.p xd.2), some (.p other), none, none, none] _ _ from sb_one (sb_setIxT rfl (p_var rfl) (e_var rfl) (e_f1 (e_opw v2_add (e_rowT rfl (e_var rfl)) (EG.w (e_lst (a_cons (e_var rfl) (a_nil)))))) (fun levels_3 => sb_nil ⟨some (.p other), rfl⟩)))) (sb_nil ⟨none, rfl⟩) (fun levels_4 jj => show SB _ [some levels_4, some (.p picks), some (.p at_v), some (.p k), some (.p form), some (.p xd.2), jj, none, none, none] _ _ from sb_frzT rfl (fun levels_5 => sb_one (sb_set (e_lc (i_seqB (EG.w (e_var rfl))) (fun level_2 => ⟨b_op (e_op (e_var rfl) (e_lst (a_nil))), e_var rfl⟩)) (fun levels_6 => sb_nil ⟨(some (.p xd.2), jj), rfl⟩)))))) (sb_nil ⟨(none, none), rfl⟩) (fun levels_7 jj_9 => show SB _ [some levels_7, some (.p picks), some (.p at_v), some (.p k), some (.p form), jj_9.1, jj_9.2, none, none, none] _ _ from sb_ifJ (enc := P.law_levels_spoilt_E3 picks at_v k form jj_9.1 jj_9.2) (b_op (e_op (e_var rfl) (e_c))) (sb_one (sb_setIxT rfl (p_var rfl) (e_var rfl) (e_f1 (e_opw v2_add (e_rowT rfl (e_var rfl)) (EG.w (e_lst (a_cons (e_opw v2_ix (e_rowT rfl (e_op (e_op (e_var rfl) (e_c)) (e_lenT rfl))) (EG.w (e_c))) (a_nil)))))) (fun levels_8 => sb_nil ⟨(), rfl⟩))) (sb_nil ⟨(), rfl⟩) (fun levels_9 jj_8 => show SB _ [some levels_9, some (.p picks), some (.p at_v), some (.p k), some (.p form), jj_9.1, jj_9.2, none, none, none] _ _ from sb_ifJ (enc := P.law_levels_spoilt_E4 picks at_v k form jj_9.1 jj_9.2) (b_op (e_op (e_var rfl) (e_c))) (sb_one (sb_setIxT rfl (p_var rfl) (e_var rfl) (e_f1 (e_opw v2_add (e_rowT rfl (e_var rfl)) (EG.w (e_lst (a_cons (e_op (e_op (e_var rfl) (e_c)) (e_c)) (a_nil)))))) (fun levels_10 => sb_nil ⟨(), rfl⟩))) (sb_nil ⟨(), rfl⟩) (fun levels_11 jj_7 => show SB _ [some levels_11, some (.p picks), some (.p at_v), some (.p k), some (.p form), jj_9.1, jj_9.2, none, none, none] _ _ from sb_ifJ (enc := P.law_levels_spoilt_E5 picks at_v k form jj_9.1 jj_9.2) (b_op (e_op (e_var rfl) (e_c))) (sb_set (e_lc (i_seqB (EG.w (e_tup (a_cons (e_slicew (e_rowT rfl (e_var rfl)) (o_none) (o_some (e_var rfl))) (a_cons (e_slicew (e_rowT rfl (e_var rfl)) (o_some (e_var rfl)) (o_none)) (a_nil)))))) (fun level_3 => ⟨b_op (e_op (e_var rfl) (e_lst (a_nil))), e_var rfl⟩)) (fun parts => show SB _ [some levels_11, some (.p picks), some (.p at_v), some (.p k), some (.p form), jj_9.1, jj_9.2, some (.p parts), none, none] _ _ from sb_frzT rfl (fun levels_12 => sb_one (sb_set (e_op (e_op (e_slice (e_var rfl) (o_none) (o_some (e_var rfl))) (e_var rfl)) (e_slice (e_var rfl) (o_some (e_op (e_var rfl) (e_c))) (o_none))) (fun levels_13 => sb_nil ⟨some (.p parts), rfl⟩))))) (sb_nil ⟨none, rfl⟩) (fun levels_14 jj_6 => show SB _ [some levels_14, some (.p picks), some (.p at_v), some (.p k), some (.p form), jj_9.1, jj_9.2, jj_6, none, none] _ _ from sb_ifJ (enc := P.law_levels_spoilt_E6 picks at_v k form jj_9.1 jj_9.2 jj_6) (b_and (b_op (e_op (e_var rfl) (e_c))) (b_op (e_op (e_var rfl) (e_c)))) (sb_frzT rfl (fun levels_15 => sb_one (sb_set (e_rev (e_var rfl)) (fun levels_16 => sb_nil ⟨none, rfl⟩)))) (sb_one (sb_ifJ (enc := P.law_levels_spoilt_E7 picks at_v k form jj_9.1 jj_9.2 jj_6) (b_op (e_op (e_var rfl) (e_c))) (sb_set (e_f1 (e_opw v2_add (e_rowT rfl (e_op (e_var rfl) (e_c))) (e_rowT rfl (e_var rfl)))) (fun both => show SB _ [some levels_14, some (.p picks), some (.p at_v), some (.p k), some (.p form), jj_9.1, jj_9.2, jj_6, some (.p both), none] _ _ from sb_frzT rfl (fun levels_17 => sb_one (sb_set (e_op (e_op (e_slice (e_var rfl) (o_none) (o_some (e_op (e_var rfl) (e_c)))) (e_lst (a_cons (e_var rfl) (a_nil)))) (e_slice (e_var rfl) (o_some (e_op (e_var rfl) (e_c))) (o_none))) (fun levels_18 => sb_nil ⟨some (.p both), rfl⟩))))) (sb_nil ⟨none, rfl⟩) (fun levels_19 jj_2 => sb_nil ⟨jj_2, rfl⟩))) (fun levels_20 jj_5 => show SB _ [some levels_20, some (.p picks), some (.p at_v), some (.p k), some (.p form), jj_9.1, jj_9.2, jj_6, jj_5, none] _ _ from sb_ifJ (enc := P.law_levels_spoilt_E8 picks at_v k form jj_9.1 jj_9.2 jj_6 jj_5) (b_op (e_op (e_var rfl) (e_c))) (sb_one (sb_insertT rfl (p_var rfl) (e_var rfl) (e_lst (a_nil)) (fun levels_21 => sb_nil ⟨(), rfl⟩))) (sb_nil ⟨(), rfl⟩) (fun levels_22 jj_4 => show SB _ [some levels_22, some (.p picks), some (.p at_v), some (.p k), some (.p form), jj_9.1, jj_9.2, jj_6, jj_5, none] _ _ from sb_ifJ (enc := P.law_levels_spoilt_E9 picks at_v k form jj_9.1 jj_9.2 jj_6 jj_5) (b_op (e_op (e_var rfl) (e_c))) (sb_one (sb_setIxT rfl (p_var rfl) (e_var rfl) (e_revw (e_rowT rfl (e_var rfl))) (fun levels_23 => sb_nil ⟨(), rfl⟩))) (sb_nil ⟨(), rfl⟩) (fun levels_24 jj_3 => show SB _ [some levels_24, some (.p picks), some (.p at_v), some (.p k), some (.p form), jj_9.1, jj_9.2, jj_6, jj_5, none] _ _ from sb_one (sb_retTs (k := fun d => d) rfl (fun d h => .inl ⟨_, rfl, h⟩)))))))))))))))
abbrev RT_law_round_spoilt_3 := RTp
def P.law_round_spoilt_3_E1 (picks : D) (k : D) (form : D) (s : List D) (j : Unit) : En := [some (own1 s), some (.p picks), some (.p k), some (.p form)]
def P.law_round_spoilt_3_E2 (picks : D) (k : D) (form : D) (s : List D) (j : Unit) : En := [some (own1 s), some (.p picks), some (.p k), some (.p form)]
def P.law_round_spoilt_3_E3 (picks : D) (k : D) (form : D) (s : List D) (j : Unit) : En := [some (own1 s), some (.p picks), some (.p k), some (.p form)]
def P.law_round_spoilt_3_E4 (picks : D) (k : D) (form : D) (s : D) (j : Unit) : En := [some (.p s), some (.p picks), some (.p k), some (.p form)]
def P.law_round_spoilt_3_E5 (picks : D) (k : D) (form : D) (s : D) (j : Unit) : En := [some (.p s), some (.p picks), some (.p k), some (.p form)]
def P.law_round_spoilt_3 (things : D) (picks : D) : Option (D) := (iseq (some things)).bind fun things_2 => (xop modT (xop idxT (some picks) (some (.int 1))) (xf1 lenT (some (.list things_2)))).bind fun k => (xop modT (xop idxT (some picks) (some (.int 2))) (some (.int 7))).bind fun form => (xif (xbool (xop M.eqT (some form) (some (.int 0)))) ((some k).bind fun l => (xop modT (xop idxT (some picks) (some (.int 3))) (some (.int 100))).bind fun y => (setL things_2 l y).bind fun things_3 => some things_3) (some things_2)).bind fun things_4 => (xif (xbool (xop M.eqT (some form) (some (.int 1)))) ((some k).bind fun l => (popK things_4 l).bind fun xd => some xd.1) (some things_4)).bind fun things_6 => (xif (xbool (xop M.eqT (some form) (some (.int 2)))) ((some k).bind fun l => (xop idxT (some (.list things_6)) (xop modT (xop idxT (some picks) (some (.int 3))) (xf1 lenT (some (.list things_6))))).bind fun y => (insL things_6 l y).bind fun things_7 => some things_7) (some things_6)).bind fun things_8 => (xif (xbool (xop M.eqT (some form) (some (.int 3)))) ((xrev (some ((.list things_8)))).bind fun things_9 => some things_9) (some (.list things_8))).bind fun things_10 => (xif (xbool (xop M.eqT (some form) (some (.int 4)))) ((xop addT (xslice (some things_10) (xint (some k)) (some none)) (xslice (some things_10) (some none) (xint (some k)))).bind fun things_11 => some things_11) (some things_10)).bind fun things_12 => some things_12
theorem R.law_round_spoilt_3 (things : D) (picks : D) : FR (RT_law_round_spoilt_3) (Q.law_round_spoilt_3 [.p things, .p picks]) (P.law_round_spoilt_3 things picks) := by
  unfold Q.law_round_spoilt_3 P.law_round_spoilt_3
  exact run_fr (show SB _ [some (.p things), some (.p picks), none, none] _ _ from sb_setF (f_list (EG.w (e_var rfl))) (fun things_2 => show SB _ [some (own1 things_2), some (.p picks), none, none] _ _ from sb_set (e_op (e_op (e_var rfl) (e_c)) (e_f1w v1_len (e_ow rfl))) (fun k => show SB _ [some (own1 things_2), some (.p picks), some (.p k), none] _ _ from sb_set (e_op (e_op (e_var rfl) (e_c)) (e_c)) (fun form => show SB _ [some (own1 things_2), some (.p picks), some (.p k), some (.p form)] _ _ from sb_ifJ (enc := P.law_round_spoilt_3_E1 picks k form) (b_op (e_op (e_var rfl) (e_c))) (sb_one (sb_setIx rfl rfl (e_var rfl) (e_op (e_op (e_var rfl) (e_c)) (e_c)) (fun things_3 => sb_nil ⟨(), rfl⟩))) (sb_nil ⟨(), rfl⟩) (fun things_4 jj_5 => show SB _ [some (own1 things_4), some (.p picks), some (.p k), some (.p form)] _ _ from sb_ifJ (enc := P.law_round_spoilt_3_E2 picks k form) (b_op (e_op (e_var rfl) (e_c))) (sb_one (sb_popAt rfl rfl (e_var rfl) (fun xd => sb_nil ⟨(), rfl⟩))) (sb_nil ⟨(), rfl⟩) (fun things_6 jj_4 => show SB _ [some (own1 things_6), some (.p picks), some (.p k), some (.p form)] _ _ from sb_ifJ (enc := P.law_round_spoilt_3_E3 picks k form) (b_op (e_op (e_var rfl) (e_c))) (sb_one (sb_insert rfl rfl (e_var rfl) (e_opw v2_ix (e_ow rfl) (EG.w (e_op (e_op (e_var rfl) (e_c)) (e_f1w v1_len (e_ow rfl))))) (fun things_7 => sb_nil ⟨(), rfl⟩))) (sb_nil ⟨(), rfl⟩) (fun things_8 jj_3 => show SB _ [some (own1 things_8), some (.p picks), some (.p k), some (.p form)] _ _ from sb_frz rfl (snap_own1 _) (sb_ifJ (enc := P.law_round_spoilt_3_E4 picks k form) (b_op (e_op (e_var rfl) (e_c))) (sb_one (sb_set (e_rev (e_var rfl)) (fun things_9 => sb_nil ⟨(), rfl⟩))) (sb_nil ⟨(), rfl⟩) (fun things_10 jj_2 => show SB _ [some (.p things_10), some (.p picks), some (.p k), some (.p form)] _ _ from sb_ifJ (enc := P.law_round_spoilt_3_E5 picks k form) (b_op (e_op (e_var rfl) (e_c))) (sb_one (sb_set (e_op (e_slice (e_var rfl) (o_some (e_var rfl)) (o_none)) (e_slice (e_var rfl) (o_none) (o_some (e_var rfl)))) (fun things_11 => sb_nil ⟨(), rfl⟩))) (sb_nil ⟨(), rfl⟩) (fun things_12 jj => show SB _ [some (.p things_12), some (.p picks), some (.p k), some (.p form)] _ _ from sb_one (sb_retV rfl (.inl ⟨_, rfl, rfl⟩))))))))))))
abbrev RT_k25_law := RTp
def P.k25_law_E1 (script : List Int) (log : D) (word : D) (told : D) (s : Unit) (j : (Option T) × (Option T) × (Option T) × (Option T) × (Option T) × (Option T) × (Option T)) : En := [some (.sc script), some (.p log), some (.p word), some (.p told), j.1, j.2.1, j.2.2.1, j.2.2.2.1, j.2.2.2.2.1, j.2.2.2.2.2.1, j.2.2.2.2.2.2, none, none, none, none]
def P.k25_law_E2 (script : List Int) (log : D) (word : D) (told : D) (cell : D) (picks : D) (more : D) (jhanded : Option T) (jfound : Option T) (s : (D) × (D)) (j : Unit) : En := [some (.sc script), some (.p log), some (.p word), some (.p told), some (.p cell), some (.p picks), some (.p more), some (.p s.1), some (.p s.2), jhanded, jfound, none, none, none, none]
def P.k25_law_L1 (log : D) (word : D) (told : D) (cell : D) : Option (Ct (Unit) (D)) := (ap3 P.law_draws (some cell) (some (.int 6)) (some (.int 1000))).bind fun picks => (xmap (fun d => un2 d fun k pick => xop addT (some pick) (some k)) (ienum (xop mulT (some picks) (some (.int 10))))).bind fun more => (xmap (fun one => xlst [some one]) (iseq (ap2 P.law_mixed (ap1 P.law_offered (some log)) (some more)))).bind fun levels => (xslice (ap1 P.law_offered (some log)) (some none) (xint (xop addT (some (.int 2)) (xop modT (xop idxT (some picks) (some (.int 5))) (some (.int 4)))))).bind fun things => (xif (xbool (xop M.eqT (some word) (some (.str "levels")))) ((some told).bind fun levels_2 => some (levels_2, things)) ((some told).bind fun things_2 => some (levels, things_2))).bind fun v => (ap2 P.law_levels_spoilt (some v.1) (some picks)).bind fun levels_3 => (ap2 P.law_round_spoilt_3 (some v.2) (some picks)).bind fun things_3 => (xlst [xmap (fun level => xf1 listT (some level)) (iseq (some levels_3)), xf1 listT (some things_3)]).bind fun handed => (ap2 P.explains_log (xf1 listT (some log)) (xop idxT (some handed) (some (.int 0)))).bind fun found => xif (xor' (xnot (xbool (xisi "bool" (some found)))) (xbool (xop M.neT (some found) (ap2 P.law_explains_2 (some log) (some levels_3))))) ((some (.bool false)).map .rt) ((ap2 P.bars_log (xf1 listT (some log)) (xop idxT (some handed) (some (.int 1)))).bind fun found_2 => xif (xor' (xnot (xbool (xisi "bool" (some found_2)))) (xbool (xop M.neT (some found_2) (ap2 P.law_bars_2 (some log) (some things_3))))) ((some (.bool false)).map .rt) (xif (xbool (xop M.neT (some handed) (xlst [some levels_3, some things_3]))) ((some (.bool false)).map .rt) (some (.nx (())))))
theorem R.k25_law_L1 (script : List Int) (log : D) (word : D) (told : D) (cell : D) (jcell : Option T) (jpicks : Option T) (jmore : Option T) (jlevels : Option T) (jthings : Option T) (jhanded : Option T) (jfound : Option T) : SB Q.k25_law_L1 [some (.sc script), some (.p log), some (.p word), some (.p told), some (.p cell), jpicks, jmore, jlevels, jthings, jhanded, jfound, none, none, none, none] (P.k25_law_L1 log word told cell) (ZC RT_k25_law (P.k25_law_E1 script log word told)) := by
  unfold Q.k25_law_L1 P.k25_law_L1
  exact sb_set (e_call3 (e_var rfl) (e_c) (e_c) fz_p fz_p fz_p (fun a b c => R.law_draws a b c)) (fun picks => show SB _ [some (.sc script), some (.p log), some (.p word), some (.p told), some (.p cell), some (.p picks), jmore, jlevels, jthings, jhanded, jfound, none, none, none, none] _ _ from sb_set (e_map2 (i_enum (e_op (e_var rfl) (e_c))) (fun k pick => e_op (e_var rfl) (e_var rfl))) (fun more => show SB _ [some (.sc script), some (.p log), some (.p word), some (.p told), some (.p cell), some (.p picks), some (.p more), jlevels, jthings, jhanded, jfound, none, none, none, none] _ _ from sb_set (e_map (i_seqB (EG.w (e_call2 (e_call1 (e_var rfl) fz_p (fun a => FR.ps (R.law_offered a))) (e_var rfl) fz_p fz_p (fun a b => R.law_mixed a b)))) (fun one => e_lst (a_cons (e_var rfl) (a_nil)))) (fun levels => show SB _ [some (.sc script), some (.p log), some (.p word), some (.p told), some (.p cell), some (.p picks), some (.p more), some (.p levels), jthings, jhanded, jfound, none, none, none, none] _ _ from sb_set (e_slice (e_call1 (e_var rfl) fz_p (fun a => FR.ps (R.law_offered a))) (o_none) (o_some (e_op (e_c) (e_op (e_op (e_var rfl) (e_c)) (e_c))))) (fun things => show SB _ [some (.sc script), some (.p log), some (.p word), some (.p told), some (.p cell), some (.p picks), some (.p more), some (.p levels), some (.p things), jhanded, jfound, none, none, none, none] _ _ from sb_ifJ (enc := P.k25_law_E2 script log word told cell picks more jhanded jfound) (b_op (e_op (e_var rfl) (e_c))) (sb_one (sb_set (e_var rfl) (fun levels_2 => sb_nil ⟨(), rfl⟩))) (sb_one (sb_set (e_var rfl) (fun things_2 => sb_nil ⟨(), rfl⟩))) (fun v jj => show SB _ [some (.sc script), some (.p log), some (.p word), some (.p told), some (.p cell), some (.p picks), some (.p more), some (.p v.1), some (.p v.2), jhanded, jfound, none, none, none, none] _ _ from sb_set (e_call2 (e_var rfl) (e_var rfl) fz_p fz_p (fun a b => R.law_levels_spoilt a b)) (fun levels_3 => show SB _ [some (.sc script), some (.p log), some (.p word), some (.p told), some (.p cell), some (.p picks), some (.p more), some (.p levels_3), some (.p v.2), jhanded, jfound, none, none, none, none] _ _ from sb_set (e_call2 (e_var rfl) (e_var rfl) fz_p fz_p (fun a b => FR.ps (R.law_round_spoilt_3 a b))) (fun things_3 => show SB _ [some (.sc script), some (.p log), some (.p word), some (.p told), some (.p cell), some (.p picks), some (.p more), some (.p levels_3), some (.p things_3), jhanded, jfound, none, none, none, none] _ _ from sb_set (e_lst (a_cons (e_map (i_seqB (EG.w (e_var rfl))) (fun level => e_f1 (e_var rfl))) (a_cons (e_f1 (e_var rfl)) (a_nil)))) (fun handed => show SB _ [some (.sc script), some (.p log), some (.p word), some (.p told), some (.p cell), some (.p picks), some (.p more), some (.p levels_3), some (.p things_3), some (.p handed), jfound, none, none, none, none] _ _ from sb_set (e_call2 (e_f1 (e_var rfl)) (e_op (e_var rfl) (e_c)) fz_p fz_p (fun a b => FR.ps (R.explains_log a b))) (fun found => show SB _ [some (.sc script), some (.p log), some (.p word), some (.p told), some (.p cell), some (.p picks), some (.p more), some (.p levels_3), some (.p things_3), some (.p handed), some (.p found), none, none, none, none] _ _ from sb_if (b_or (b_not (b_val (e_isi (EG.w (e_var rfl))))) (b_op (e_op (e_var rfl) (e_call2 (e_var rfl) (e_var rfl) fz_p fz_p (fun a b => FR.ps (R.law_explains_2 a b)))))) (sb_ret (k := Ct.rt) (e_c) (fun d => ⟨_, rfl, rfl⟩)) (sb_skip (show SB _ [some (.sc script), some (.p log), some (.p word), some (.p told), some (.p cell), some (.p picks), some (.p more), some (.p levels_3), some (.p things_3), some (.p handed), some (.p found), none, none, none, none] _ _ from sb_set (e_call2 (e_f1 (e_var rfl)) (e_op (e_var rfl) (e_c)) fz_p fz_p (fun a b => FR.ps (R.bars_log a b))) (fun found_2 => show SB _ [some (.sc script), some (.p log), some (.p word), some (.p told), some (.p cell), some (.p picks), some (.p more), some (.p levels_3), some (.p things_3), some (.p handed), some (.p found_2), none, none, none, none] _ _ from sb_if (b_or (b_not (b_val (e_isi (EG.w (e_var rfl))))) (b_op (e_op (e_var rfl) (e_call2 (e_var rfl) (e_var rfl) fz_p fz_p (fun a b => FR.ps (R.law_bars_2 a b)))))) (sb_ret (k := Ct.rt) (e_c) (fun d => ⟨_, rfl, rfl⟩)) (sb_skip (show SB _ [some (.sc script), some (.p log), some (.p word), some (.p told), some (.p cell), some (.p picks), some (.p more), some (.p levels_3), some (.p things_3), some (.p handed), some (.p found_2), none, none, none, none] _ _ from sb_one (sb_if (b_op (e_op (e_var rfl) (e_lst (a_cons (e_var rfl) (a_cons (e_var rfl) (a_nil)))))) (sb_ret (k := Ct.rt) (e_c) (fun d => ⟨_, rfl, rfl⟩)) (sb_skip (sb_nil ⟨(some (.p cell), some (.p picks), some (.p more), some (.p levels_3), some (.p things_3), some (.p handed), some (.p found_2)), .inl rfl⟩)))))))))))))))))
def P.k25_law (script : List Int) : Option (D) := (ap3 P.law_a_log (some script) (some (.int 0)) (some (.int 10))).bind fun log => (ap1 P.told_by_log (some log)).bind fun d => un2 d fun word told => (iseq (xop addT (xlst [ap2 P.law_cell_at (some script) (some (.int 2))]) (xscut script (xint (some (.int 3))) (xint (some (.int 14)))))).bind fun ds => aft (foldC (fun s d => P.k25_law_L1 log word told d) ds (())) (fun d => d) fun v_2 => some (.bool true)
theorem R.k25_law (script : List Int) : FR (RT_k25_law) (Q.k25_law [.sc script]) (P.k25_law script) := by
  unfold Q.k25_law P.k25_law
  exact run_fr (show SB _ [some (.sc script), none, none, none, none, none, none, none, none, none, none, none, none, none, none] _ _ from sb_set (e_call3 (e_var rfl) (e_c) (e_c) fz_sc fz_p fz_p (fun a b c => R.law_a_log a b c)) (fun log => show SB _ [some (.sc script), some (.p log), none, none, none, none, none, none, none, none, none, none, none, none, none] _ _ from sb_asg2 (e_call1 (e_var rfl) fz_p (fun a => FR.ps (R.told_by_log a))) (fun word told => show SB _ [some (.sc script), some (.p log), some (.p word), some (.p told), none, none, none, none, none, none, none, none, none, none, none] _ _ from sb_forC (enc := P.k25_law_E1 script log word told) (j0 := (none, none, none, none, none, none, none)) (RT := RT_k25_law) (i_seq (e_op (e_lst (a_cons (e_call2 (e_var rfl) (e_c) fz_sc fz_p (fun a b => R.law_cell_at a b)) (a_nil))) (e_scSlice (e_var rfl) (o_some (e_c)) (o_some (e_c))))) rfl (stepNC (fun s j d => R.k25_law_L1 script log word told d j.1 j.2.1 j.2.2.1 j.2.2.2.1 j.2.2.2.2.1 j.2.2.2.2.2.1 j.2.2.2.2.2.2)) (fun d t h => .inl ⟨t, rfl, h⟩) (fun v_2 jj_2 => show SB _ [some (.sc script), some (.p log), some (.p word), some (.p told), jj_2.1, jj_2.2.1, jj_2.2.2.1, jj_2.2.2.2.1, jj_2.2.2.2.2.1, jj_2.2.2.2.2.2.1, jj_2.2.2.2.2.2.2, none, none, none, none] _ _ from sb_one (sb_ret0 (e_c) (fun d => .inl ⟨_, rfl, rfl⟩))))))
end
end
namespace B
open PySem PySem.Spec PyProof.Rows L2 M

theorem forRun_inv {g : D → En → Option En} {mb : SM} (P : Nat → En → Prop) : ∀ (ds : List D) (env : En) (k : Nat), P k env →
    (∀ i d e, ds[i]? = some d → P (k + i) e → ∃ e1 e2, g d e = some e1 ∧ (mb e1 = some (.nx e2) ∨ mb e1 = some (.ct e2)) ∧ P (k + i + 1) e2) → ∃ e, forRun g mb ds env = some (.nx e) ∧ P (k + ds.length) e
  | [], env, k, h, _ => ⟨env, rfl, h⟩
  | d :: r, env, k, h, hs => by
    obtain ⟨e1, e2, h1, h2, h3⟩ := hs 0 d env rfl h
    obtain ⟨e, h4, h5⟩ := forRun_inv P r e2 (k + 1) h3 (fun i d' e' hd hp => by
      have := hs (i + 1) d' e' (by simpa using hd) (by rw [show k + (i + 1) = k + 1 + i by omega]; exact hp)
      rw [show k + (i + 1) + 1 = k + 1 + i + 1 by omega] at this
      exact this)
    refine ⟨e, ?_, by rw [List.length_cons, show k + (r.length + 1) = k + 1 + r.length by omega]; exact h5⟩
    simp only [forRun, h1, Option.bind_some]
    rcases h2 with h2 | h2 <;> simp only [h2, Option.bind_some, h4]

theorem fmod_pos {a b : Int} (h : 0 < b) : a.fmod b = a % b := Int.fmod_eq_emod_of_nonneg a (by omega)
theorem fdiv_pos {a b : Int} (h : 0 < b) : a.fdiv b = a / b := Int.fdiv_eq_ediv_of_nonneg a (by omega)
/-- draws: so many numbers from 0 to base -/
theorem draws (cell many base : Int) (hm : 0 ≤ many) (hm2 : many ≤ 1000) (hb : 0 < base) (hb2 : base < 2 ^ 60) :
    ∃ xs : List Int, Q.law_draws [.p (.int cell), .p (.int many), .p (.int base)] = some (.ml (xs.map fun x => T.p (.int x))) ∧ xs.length = many.toNat ∧ ∀ x ∈ xs, 0 ≤ x ∧ x < base := by
  unfold Q.law_draws runFn startE
  have hs : smallI (many + 3) := by unfold smallI; omega
  have hml : mulOk cell (if 1000000000000000000 ≤ cell then 1 else 0) = true := mulOk_r (by split <;> decide)
  have h48 : ∀ x : Int, mulOk 48271 x = true := fun x => mulOk_l (by decide)
  simp [LIM, hml, hs]
  generalize hr0 : cell * (if 1000000000000000000 ≤ cell then 1 else 0) = rest0
  let P : Nat → En → Prop := fun i e => ∃ (xs : List Int) (rest st : Int) (lk : Option T), e = [some (T.p (.int cell)), some (T.p (.int many)), some (T.p (.int base)), some (.ml (xs.map fun x => T.p (.int x))), some (.p (.int rest)), some (.p (.int st)), lk] ∧ xs.length = i - 3 ∧ (∀ x ∈ xs, 0 ≤ x ∧ x < base) ∧ 0 ≤ st ∧ st < 2305843009213693951
  have h0 : P 0 [some (T.p (.int cell)), some (T.p (.int many)), some (T.p (.int base)), some (.ml []), some (.p (.int rest0)), some (.p (.int (cell.fmod 2305843009213693951))), none] := by
    refine ⟨[], rest0, _, none, rfl, rfl, by simp, ?_⟩
    rw [fmod_pos (by decide)]
    omega
  have hstep : ∀ i d e, (rangeD 0 (many + 3))[i]? = some d → P (0 + i) e → ∃ e1 e2, gNm 6 d e = some e1 ∧ (Q.law_draws_L1 e1 = some (.nx e2) ∨ Q.law_draws_L1 e1 = some (.ct e2)) ∧ P (0 + i + 1) e2 := by
    rintro i d e hd ⟨xs, rest, st, lk, rfl, hl, hx, h0, h1⟩
    unfold Q.law_draws_L1
    have hi : i < (many + 3).toNat := by
      have := (List.getElem?_eq_some_iff.mp hd).1
      simpa [rangeD] using this
    have hd' : d = .int i := by
      simp [rangeD, hi] at hd
      exact hd.symm
    subst hd'
    have hst : mulOk st st = true := mulOk_l (by omega)
    have h4 : divOk 4096 = true := by decide
    have hbd : divOk base = true := divOk_small (by omega) (by omega)
    have hb0 : base ≠ 0 := by omega
    generalize hn : ((st * st + 48271 * st + (i : Int) + 1) % 2305843009213693951) = st'
    have hst' : 0 ≤ st' ∧ st' < 2305843009213693951 := by
      rw [← hn]; omega
    have hfl : xs.length < 1000000 := by omega
    by_cases hi2 : (2 : Int) < (i : Int)
    · have hi3 : 2 < i := by omega
      by_cases hr : 0 < rest
      · refine ⟨_, [some (T.p (.int cell)), some (T.p (.int many)), some (T.p (.int base)), some (.ml ((xs ++ [rest.fmod base]).map fun x => T.p (.int x))), some (.p (.int (rest.fdiv base))), some (.p (.int st')), some (.p (.int i))], rfl, .inl ?_, xs ++ [rest.fmod base], _, _, _, rfl, ?_, ?_, hst'⟩
        · simp [hst, h48, hi2, hi3, hr, hb0, hbd, LIM, hfl, fmod_pos, hn]
        · simp; omega
        · intro x hx'
          rcases List.mem_append.mp hx' with z | z
          · exact hx x z
          · have : x = rest.fmod base := by simpa using z
            subst this
            rw [fmod_pos hb]
            exact ⟨Int.emod_nonneg _ (by omega), Int.emod_lt_of_pos _ hb⟩
      · refine ⟨_, [some (T.p (.int cell)), some (T.p (.int many)), some (T.p (.int base)), some (.ml ((xs ++ [(st'.fdiv 4096).fmod base]).map fun x => T.p (.int x))), some (.p (.int rest)), some (.p (.int st')), some (.p (.int i))], rfl, .inl ?_, xs ++ [(st'.fdiv 4096).fmod base], _, _, _, rfl, ?_, ?_, hst'⟩
        · simp [hst, h48, hi2, hi3, hr, hb0, h4, LIM, hfl, fmod_pos, hn]
        · simp; omega
        · intro x hx'
          rcases List.mem_append.mp hx' with z | z
          · exact hx x z
          · have : x = (st'.fdiv 4096).fmod base := by simpa using z
            subst this
            rw [fmod_pos hb]
            exact ⟨Int.emod_nonneg _ (by omega), Int.emod_lt_of_pos _ hb⟩
    · have hi3 : ¬ 2 < i := by omega
      refine ⟨_, [some (T.p (.int cell)), some (T.p (.int many)), some (T.p (.int base)), some (.ml (xs.map fun x => T.p (.int x))), some (.p (.int rest)), some (.p (.int st')), some (.p (.int i))], rfl, .inl ?_, xs, _, _, _, rfl, ?_, hx, hst'⟩
      · simp [hst, h48, hi2, hi3, fmod_pos, hn]
      · omega
  obtain ⟨e, he, xs, rest, st, lk, hee, hl, hx⟩ := forRun_inv P _ _ 0 h0 hstep
  refine ⟨xs, ?_, ?_, hx.1⟩
  · rw [he, hee]
    simp
  · rw [hl]
    simp [rangeD]
    omega
end B
namespace B
open PySem PySem.Spec PyProof.Rows L2 M

abbrev Buy := List Int × List Int
def enI (xs : List Int) : List D := xs.map PyData.int
def enB (b : Buy) : D := .tuple [.tuple (enI b.1), .tuple (enI b.2)]
def enBk (bk : List Buy) : D := .list (bk.map enB)
structure Good (n : Nat) (b : Buy) : Prop where
  lp : b.1.length = n
  la : b.2.length = n
  pr : ∀ p ∈ b.1, 1 ≤ p ∧ p ≤ 1000000
  am : ∀ a ∈ b.2, 0 ≤ a ∧ a ≤ 1000000
  ps : ∃ a ∈ b.2, 0 < a
structure ValidBook (n : Nat) (bk : List Buy) : Prop where
  n1 : 1 ≤ n
  n6 : n ≤ 6
  ne : 1 ≤ bk.length
  all : ∀ b ∈ bk, Good n b

theorem stepS {a b : SM} {env e : En} (h : a env = some (.nx e)) : sCons a b env = b e := by simp [h]
theorem lcRun_of {α : Type} {g : D → En → Option En} {tt : En → Option Bool} {me : EM} {env : En} (en : α → D) (p : α → Bool) (f : α → D) : ∀ (xs : List α), (∀ x ∈ xs, ∃ e, g (en x) env = some e ∧ tt e = some (p x) ∧ (p x = true → me e = some (.p (f x)))) →
    lcRun g tt me env (xs.map en) = some ((xs.filter p).map f)
  | [], _ => rfl
  | x :: r, h => by
    obtain ⟨e, h1, h2, h3⟩ := h x List.mem_cons_self
    have ih := lcRun_of en p f r (fun y hy => h y (List.mem_cons_of_mem _ hy))
    simp only [List.map_cons, lcRun, h1, h2, Option.bind_some]
    cases hp : p x with
    | true => simp [h3 hp, ih, hp]
    | false => simp [ih, hp]
theorem lcRun_map {α : Type} {g : D → En → Option En} {tt : En → Option Bool} {me : EM} {env : En} (en : α → D) (f : α → D) (xs : List α) (h : ∀ x ∈ xs, ∃ e, g (en x) env = some e ∧ tt e = some true ∧ me e = some (.p (f x))) :
    lcRun g tt me env (xs.map en) = some (xs.map f) := by
  have := lcRun_of (g := g) (tt := tt) (me := me) (env := env) en (fun _ => true) f xs (fun x hx => by
    obtain ⟨e, h1, h2, h3⟩ := h x hx
    exact ⟨e, h1, h2, fun _ => h3⟩)
  rw [this, List.filter_eq_self.mpr (fun _ _ => rfl)]
theorem lc_ints {g : D → En → Option En} {tt : En → Option Bool} {me : EM} {env : En} (f : Int → Int) (xs : List Int) (h : ∀ x ∈ xs, ∃ e, g (.int x) env = some e ∧ tt e = some true ∧ me e = some (.p (.int (f x)))) :
    lcRun g tt me env (enI xs) = some (enI (xs.map f)) := by
  have := lcRun_map PyData.int (fun x => .int (f x)) xs h
  unfold enI
  rw [this, List.map_map]
  rfl
theorem cut_to {α : Type} (xs : List α) (k : Int) (h : 0 ≤ k) : cutL xs none (some k) = xs.take k.toNat := by
  unfold cutL HT.sIx
  simp only [if_neg (show ¬ k < 0 by omega)]
  simp
theorem cut_ft {α : Type} (xs : List α) (a b : Int) (h : 0 ≤ a) (h2 : 0 ≤ b) : cutL xs (some a) (some b) = (xs.drop a.toNat).take (b.toNat - a.toNat) := by
  unfold cutL HT.sIx
  simp only [if_neg (show ¬ a < 0 by omega), if_neg (show ¬ b < 0 by omega)]
  by_cases ha : a.toNat ≤ xs.length
  · rw [Nat.min_eq_left ha, List.take_eq_take_iff]
    simp
    omega
  · rw [List.drop_eq_nil_of_le (by omega), List.drop_eq_nil_of_le (by omega)]
    simp
theorem enI_length (xs : List Int) : (enI xs).length = xs.length := by simp [enI]
theorem atI_enI {xs : List Int} {i : Int} (h0 : 0 ≤ i) (h1 : i < xs.length) : atI (enI xs) i = some (.int (xs.getD i.toNat 0)) := by
  rw [atI_lt h0 (by rw [enI_length]; exact h1)]
  unfold enI
  have : i.toNat < xs.length := by omega
  simp [List.getD, this]
theorem getD_mem {xs : List Int} {k : Nat} (h : k < xs.length) : xs.getD k 0 ∈ xs := by
  simp [List.getD, h]
theorem callT_ml {fn : List T → Option T} {ts : List T} {xs : List Int} (hf : ts.all T.frozen = true) (h : fn ts = some (.ml (xs.map fun x => T.p (.int x)))) : callT fn ts = some (.p (.list (enI xs))) := by
  unfold callT
  rw [if_pos hf, h]
  simp only [Option.bind_some, T.snap, snaps_ints, Option.map_some]
  rfl
theorem callT_p {fn : List T → Option T} {ts : List T} {d : D} (hf : ts.all T.frozen = true) (h : fn ts = some (.p d)) : callT fn ts = some (.p d) := by
  unfold callT
  rw [if_pos hf, h]
  simp
theorem c_draws (cell many base : Int) (hm : 0 ≤ many) (hm2 : many ≤ 1000) (hb : 0 < base) (hb2 : base < 2 ^ 60) :
    ∃ xs : List Int, callT Q.law_draws [.p (.int cell), .p (.int many), .p (.int base)] = some (.p (.list (enI xs))) ∧ xs.length = many.toNat ∧ ∀ x ∈ xs, 0 ≤ x ∧ x < base := by
  obtain ⟨xs, h1, h2, h3⟩ := draws cell many base hm hm2 hb hb2
  exact ⟨xs, callT_ml rfl h1, h2, h3⟩
theorem c_cell_at (ns : List Int) (k : Int) (hk : 0 ≤ k) : ∃ c, callT Q.law_cell_at [.sc ns, .p (.int k)] = some (.p (.int c)) := by
  by_cases h : k < (ns.length : Int)
  · refine ⟨ns[k.toNat]'(by omega), callT_p rfl ?_⟩
    unfold Q.law_cell_at runFn startE
    simp [h, atI_lt hk h]
  · refine ⟨0, callT_p rfl ?_⟩
    unfold Q.law_cell_at runFn startE
    simp [h]

theorem ixN_of {n : Nat} {i : Int} (h0 : 0 ≤ i) (h1 : i < n) : ixN n i = some i.toNat := by
  unfold ixN
  rw [if_pos h0, if_pos h1]
theorem exS {a b : SM} {env : En} {Post : En → Prop} (Q : En → Prop) (h1 : ∃ e, a env = some (.nx e) ∧ Q e) (h2 : ∀ e, Q e → ∃ e', b e = some (.nx e') ∧ Post e') : ∃ e', sCons a b env = some (.nx e') ∧ Post e' := by
  obtain ⟨e, h3, h4⟩ := h1
  obtain ⟨e', h5, h6⟩ := h2 e h4
  exact ⟨e', by rw [stepS h3]; exact h5, h6⟩
theorem exE {a b : SM} {env : En} {Post : En → Prop} (e : En) (h1 : a env = some (.nx e)) (h2 : ∃ e', b e = some (.nx e') ∧ Post e') : ∃ e', sCons a b env = some (.nx e') ∧ Post e' := by
  obtain ⟨e', h5, h6⟩ := h2
  exact ⟨e', by rw [stepS h1]; exact h5, h6⟩
theorem atI_ex {xs : List Int} {i : Int} (h0 : 0 ≤ i) (h1 : i < xs.length) : ∃ x ∈ xs, atI (enI xs) i = some (.int x) := ⟨_, getD_mem (by omega), atI_enI h0 h1⟩
theorem canLay_ints : ∀ xs : List Int, PyData.canLayAll0 (enI xs) = true
  | [] => by simp [enI, PyData.canLayAll0]
  | x :: r => by
    have := canLay_ints r
    unfold enI at *
    simp [PyData.canLayAll0, PyData.canLay0, this]
theorem depth_enI (xs : List Int) : PyData.depthAll (enI xs) = 0 := depth_ints xs
end B
namespace B
open PySem PySem.Spec PyProof.Rows L2 M

theorem snap_bk (bk : List Buy) : (T.ml (bk.map fun b => T.p (enB b))).snap = some (enBk bk) := by
  have := snaps_p (bk.map enB)
  rw [List.map_map] at this
  simp only [T.snap]
  rw [show (bk.map fun b => T.p (enB b)) = bk.map (T.p ∘ enB) from rfl, this]
  rfl

theorem callT_snap {fn : List T → Option T} {ts : List T} {t : T} {d : D} (hf : ts.all T.frozen = true) (h : fn ts = some t) (hs : t.snap = some d) : callT fn ts = some (.p d) := by
  unfold callT
  rw [if_pos hf, h]
  simp [hs]
end B
namespace B
open PySem PySem.Spec PyProof.Rows L2 M

def enBl (xs : List Bool) : List D := xs.map PyData.bool
theorem allT_b (xs : List Bool) : allT [.p (.list (enBl xs))] = some (.p (.bool (xs.all id))) := by
  unfold enBl
  simp [allT, boolsOf_map]
theorem anyT_b (xs : List Bool) : anyT [.p (.list (enBl xs))] = some (.p (.bool (xs.any id))) := by
  unfold enBl
  simp [anyT, boolsOf_map]
theorem minI_some {xs : List Int} (h : xs ≠ []) : ∃ m, minI xs = some m := by
  cases xs with
  | nil => exact absurd rfl h
  | cons x r => exact ⟨_, rfl⟩
end B
namespace B
open PySem PySem.Spec PyProof.Rows L2 M

theorem enI_append (a b : List Int) : enI a ++ enI b = enI (a ++ b) := by simp [enI]
end B
namespace B
open PySem PySem.Spec PyProof.Rows L2 M

theorem oxE {a b : SM} {env : En} {Post : Out → Prop} (e : En) (h1 : a env = some (.nx e)) (h2 : ∃ o, b e = some o ∧ Post o) : ∃ o, sCons a b env = some o ∧ Post o := by
  obtain ⟨e', h5, h6⟩ := h2
  exact ⟨e', by rw [stepS h1]; exact h5, h6⟩
theorem run_of {n : Nat} {body : SM} {ts : List T} {t : T} (h : ∃ o, body (startE n ts) = some o ∧ o = .rt t) : runFn n body ts = some t := by
  obtain ⟨o, h1, rfl⟩ := h
  unfold runFn
  rw [h1]
  rfl
@[simp] theorem ev_atix {k : Nat} {π : List Stp} {ts : List T} : T.at (.ix k :: π) (.ml ts) = (ts[k]?).bind fun u => T.at π u := rfl
@[simp] theorem ev_putix {k : Nat} {π : List Stp} {ts : List T} {u : T} : T.put (.ix k :: π) (.ml ts) u = (ts[k]?).bind fun c => (T.put π c u).map fun c' => .ml (ts.set k c') := rfl
@[simp] theorem ev_mull {ds : List D} {j : Int} : mulT (.p (.list ds)) (.p (.int j)) = if rep62 ds.length j then some (.p (.list (List.replicate j.toNat ds).flatten)) else none := rfl
theorem mp_app (ps : List Int) (v : Int) : (enI ps).map T.p ++ [T.p (.int v)] = (enI (ps ++ [v])).map T.p := by simp [enI]
def mI (xs : List Int) : T := .ml ((enI xs).map T.p)
@[simp] theorem strip_mI (xs : List Int) : (mI xs).strip = mI xs := rfl
@[simp] theorem wrap_mI (xs : List Int) (u : T) : (mI xs).wrap u = u := rfl
theorem snap_mI (xs : List Int) : (mI xs).snap = some (.list (enI xs)) := by unfold mI; simp [T.snap, snaps_p]
theorem len_mI (xs : List Int) : lenT [mI xs] = some (.p (.int xs.length)) := by unfold mI; rw [ev_lenm]; simp [enI_length]
theorem cutL_enB (bk : List Buy) (lo hi : Option Int) : cutL (bk.map enB) lo hi = (cutL bk lo hi).map enB := by
  unfold cutL
  simp [List.map_take, List.map_drop]
theorem isi_bool (b : Bool) : isiT "bool" (.p (.bool b)) = some (.p (.bool true)) := by
  simp [isiT, tyN, isi]
theorem nodup_sub_le : ∀ {l m : List Int}, l.Nodup → (∀ x ∈ l, x ∈ m) → l.length ≤ m.length
  | [], _, _, _ => Nat.zero_le _
  | x :: r, m, hn, hs => by
    obtain ⟨h1, h2⟩ := List.nodup_cons.mp hn
    have hx := hs x List.mem_cons_self
    have := nodup_sub_le (l := r) (m := m.erase x) h2 (fun y hy => by
      refine (List.mem_erase_of_ne ?_).mpr (hs y (List.mem_cons_of_mem _ hy))
      intro e; subst e; exact h1 hy)
    rw [List.length_erase_of_mem hx] at this
    have hp := List.length_pos_of_mem hx
    rw [List.length_cons]
    omega

theorem flat_enI (xs : List Int) : (enI xs).all flatD = true := by
  unfold enI
  simp [flatD]
theorem flat_int (x : Int) : flatD (.int x) = true := rfl
theorem any_eqv (xs : List Int) (x : Int) : ((enI xs).any fun z => PyData.eqv z (.int x)) = decide (x ∈ xs) := by
  unfold enI
  rw [Bool.eq_iff_iff]
  simp [PyData.eqv]
theorem in_t (xs : List Int) (x : Int) : inT (.p (.int x)) (.p (.tuple (enI xs))) = some (.p (.bool (decide (x ∈ xs)))) := by
  simp [inT, -List.all_eq_true, flat_enI, any_eqv, flat_int]
theorem notIn_t (xs : List Int) (x : Int) : notInT (.p (.int x)) (.p (.tuple (enI xs))) = some (.p (.bool (!decide (x ∈ xs)))) := by
  simp [notInT, -List.all_eq_true, flat_enI, any_eqv, flat_int]
theorem notIn_l (xs : List Int) (x : Int) : notInT (.p (.int x)) (.p (.list (enI xs))) = some (.p (.bool (!decide (x ∈ xs)))) := by
  simp [notInT, -List.all_eq_true, flat_enI, any_eqv, flat_int]
theorem any_mI (xs : List Int) : (mI xs).any? = some (enI xs) := by
  simp only [mI, T.any?, T.seq?, pures_map]
theorem notIn_m (xs : List Int) (x : Int) : notInT (.p (.int x)) (mI xs) = some (.p (.bool (!decide (x ∈ xs)))) := by
  simp [notInT, any_mI, -List.all_eq_true, flat_enI, any_eqv, flat_int]

theorem ne_nil_ints (xs : List Int) : M.neT (.p (.list (enI xs))) (.p (.list [])) = some (.p (.bool (!xs.isEmpty))) := by
  have h1 : SeqAt.shaped (.list (enI xs)) = true := by
    simp [SeqAt.shaped, PyData.canLay0, canLay_ints, PyData.depth, depth_enI]
  have h2 : SeqAt.shaped (.list []) = true := by simp [SeqAt.shaped, PyData.canLay0, PyData.canLayAll0, PyData.depth, PyData.depthAll]
  simp only [M.neT, ev_snap, Option.bind_some, h1, h2, and_self, if_true]
  cases xs <;> simp [enI, PyData.eqv, PyData.eqvAll]
end B
namespace B
open PySem PySem.Spec PyProof.Rows L2 M

def enQ (q : Rat) : D := .tuple [.int q.num, .int q.den]
@[simp] theorem ev_abs {i : Int} : absT [.p (.int i)] = some (.p (.int i.natAbs)) := by
  have : (if i < 0 then -i else i) = (i.natAbs : Int) := by split <;> omega
  simp only [absT, ev_int, Option.map_some, this]
@[simp] theorem ev_sPar {i j : Nat} {ms : En → Option (List T)} {env : En} : sPar i j ms env = (ms env).bind fun ts => (pures ts).bind fun ds => match ds with
  | [a, b] => some (.nx ((env.set i (some (.p a))).set j (some (.p b))))
  | _ => none := rfl
theorem gcd_run : ∀ (k x y n : Nat), y < 2 ^ k → 2 * k + 2 ≤ n → whileRun (bOp gtT (mVar 1) (mC (.int 0))) Q.divisor_L1 n [some (.p (.int x)), some (.p (.int y))] = some (.nx [some (.p (.int (Nat.gcd x y))), some (.p (.int 0))])
  | 0, x, y, n, hy, hn => by
    have hy0 : y = 0 := by simpa using hy
    subst hy0
    obtain ⟨m, rfl⟩ : ∃ m, n = m + 1 := ⟨n - 1, by omega⟩
    simp [whileRun]
  | k + 1, x, y, n, hy, hn => by
    obtain ⟨m, rfl⟩ : ∃ m, n = m + 1 := ⟨n - 1, by omega⟩
    by_cases h0 : y = 0
    · subst h0
      simp [whileRun]
    · have hyp : 0 < y := by omega
      have e1 : (x : Int).fmod (y : Int) = ((x % y : Nat) : Int) := by rw [fmod_pos (by omega)]; rfl
      have step : whileRun (bOp gtT (mVar 1) (mC (.int 0))) Q.divisor_L1 (m + 1) [some (.p (.int x)), some (.p (.int y))] = whileRun (bOp gtT (mVar 1) (mC (.int 0))) Q.divisor_L1 m [some (.p (.int y)), some (.p (.int ((x % y : Nat) : Int)))] := by
        have : Q.divisor_L1 [some (.p (.int x)), some (.p (.int y))] = some (.nx [some (.p (.int y)), some (.p (.int ((x % y : Nat) : Int)))]) := by
          unfold Q.divisor_L1
          simp [h0, -Int.natCast_emod, e1]
        simp only [whileRun, this]
        simp [hyp]
      rw [step]
      have hr : x % y < y := Nat.mod_lt _ hyp
      have hg : Nat.gcd x y = Nat.gcd y (x % y) := by rw [Nat.gcd_comm, Nat.gcd_rec, Nat.gcd_comm]
      by_cases h1 : x % y < 2 ^ k
      · rw [gcd_run k y (x % y) m h1 (by omega), hg]
      · obtain ⟨l, rfl⟩ : ∃ l, m = l + 1 := ⟨m - 1, by omega⟩
        obtain ⟨r, hrr⟩ : ∃ r, x % y = r := ⟨_, rfl⟩
        rw [hrr] at h1 hr hg ⊢
        have hrp : 0 < r := by have := Nat.two_pow_pos k; omega
        have hr0 : r ≠ 0 := by omega
        have e2 : (y : Int).fmod (r : Int) = ((y % r : Nat) : Int) := by rw [fmod_pos (by omega)]; rfl
        have step2 : whileRun (bOp gtT (mVar 1) (mC (.int 0))) Q.divisor_L1 (l + 1) [some (.p (.int y)), some (.p (.int r))] = whileRun (bOp gtT (mVar 1) (mC (.int 0))) Q.divisor_L1 l [some (.p (.int r)), some (.p (.int ((y % r : Nat) : Int)))] := by
          have : Q.divisor_L1 [some (.p (.int y)), some (.p (.int r))] = some (.nx [some (.p (.int r)), some (.p (.int ((y % r : Nat) : Int)))]) := by
            unfold Q.divisor_L1
            simp [hr0, -Int.natCast_emod, e2]
          simp only [whileRun, this]
          simp [hrp]
        rw [step2]
        have h2 : y % r < 2 ^ k := by
          have e3 : y % r = (y - r) % r := Nat.mod_eq_sub_mod (by omega)
          have e4 := Nat.mod_le (y - r) r
          have e5 : 2 ^ (k + 1) = 2 * 2 ^ k := by rw [Nat.pow_succ, Nat.mul_comm]
          omega
        have hg2 : Nat.gcd y r = Nat.gcd r (y % r) := by rw [Nat.gcd_comm, Nat.gcd_rec, Nat.gcd_comm]
        rw [gcd_run k r (y % r) l h2 (by omega), hg, hg2]

theorem divisor (a b : Int) (hb : b.natAbs < 2 ^ 100000) : callT Q.divisor [.p (.int a), .p (.int b)] = some (.p (.int (Int.gcd a b))) := by
  refine callT_p rfl ?_
  unfold Q.divisor
  refine run_of ?_
  rw [show startE 2 [T.p (.int a), T.p (.int b)] = [some (.p (.int a)), some (.p (.int b))] from rfl]
  refine oxE [some (.p (.int a.natAbs)), some (.p (.int b))] (by simp) ?_
  refine oxE [some (.p (.int a.natAbs)), some (.p (.int b.natAbs))] (by simp) ?_
  refine oxE [some (.p (.int (Nat.gcd a.natAbs b.natAbs))), some (.p (.int 0))] (by
    rw [ev_sWhile]
    exact gcd_run 100000 _ _ _ hb (by unfold FUEL; omega)) ?_
  exact ⟨_, rfl, rfl⟩

def Sz (k : Nat) (i : Int) : Prop := i.natAbs < 2 ^ k
theorem divOk_sz {j : Int} (h0 : j ≠ 0) (h : Sz 9000 j) : divOk j = true := by
  unfold divOk
  have : j.natAbs ≠ 0 := by omega
  have h2 : j.natAbs.log2 < 9000 := (Nat.log2_lt this).mpr h
  simp [h0, h2]
theorem fdiv_exact {a g : Int} (h : g ∣ a) : a.fdiv g = a / g := Int.fdiv_eq_ediv_of_dvd h
theorem fraction (a b : Int) (hb : b ≠ 0) (sb : Sz 9000 b) : callT Q.fraction [.p (.int a), .p (.int b)] = some (.p (enQ (Rat.divInt a b))) := by
  have hlt : (2 : Nat) ^ 9000 ≤ 2 ^ 100000 := Nat.pow_le_pow_right (by decide) (by decide)
  have hdv := divisor a b (Nat.lt_of_lt_of_le sb hlt)
  refine callT_p rfl ?_
  unfold Q.fraction
  refine run_of ?_
  rw [show startE 3 [T.p (.int a), T.p (.int b)] = [some (.p (.int a)), some (.p (.int b)), none] from rfl]
  obtain ⟨g, hg⟩ : ∃ g : Nat, Int.gcd a b = g := ⟨_, rfl⟩
  have hgp : 0 < g := by
    rw [← hg]; exact Int.gcd_pos_of_ne_zero_right a hb
  have d1 : (g : Int) ∣ a := by rw [← hg]; exact Int.gcd_dvd_left ..
  have d2 : (g : Int) ∣ b := by rw [← hg]; exact Int.gcd_dvd_right ..
  rw [hg] at hdv
  refine oxE [some (.p (.int a)), some (.p (.int b)), some (.p (.int g))] (by simp [hdv]) ?_
  have hgle : g ≤ b.natAbs := Nat.le_of_dvd (by omega) (by have := Int.natAbs_dvd_natAbs.mpr d2; rwa [Int.natAbs_natCast] at this)
  have sg : Sz 9000 (g : Int) := by unfold Sz at *; rw [Int.natAbs_natCast]; omega
  have sg' : Sz 9000 (-(g : Int)) := by unfold Sz at *; rw [Int.natAbs_neg, Int.natAbs_natCast]; omega
  have ok1 : divOk (g : Int) = true := divOk_sz (by omega) sg
  have ok2 : divOk (-(g : Int)) = true := divOk_sz (by omega) sg'
  have L2' : 2 ≤ LIM := by decide
  have hnum : (Rat.divInt a b).num = b.sign * a / g := by rw [Rat.num_divInt, Int.gcd_comm, hg]
  have hden : ((Rat.divInt a b).den : Int) = b.natAbs / g := by
    rw [Rat.den_divInt, if_neg hb, Int.gcd_comm, hg]; rfl
  by_cases hneg : b < 0
  · refine oxE [some (.p (.int a)), some (.p (.int b)), some (.p (.int (-(g : Int))))] (by simp [hneg]) ?_
    refine ⟨_, ?_, rfl⟩
    have e1 : a.fdiv (-(g : Int)) = (Rat.divInt a b).num := by
      rw [fdiv_exact (Int.neg_dvd.mpr d1), hnum, Int.sign_eq_neg_one_of_neg hneg]
      rw [Int.ediv_neg, Int.neg_mul, Int.one_mul, Int.neg_ediv_of_dvd d1]
    have e2 : b.fdiv (-(g : Int)) = (Rat.divInt a b).den := by
      rw [fdiv_exact (Int.neg_dvd.mpr d2), hden, Int.ediv_neg, ← Int.neg_ediv_of_dvd d2]
      congr 1; omega
    unfold enQ
    simp [ok2, e1, e2, L2']
  · refine oxE [some (.p (.int a)), some (.p (.int b)), some (.p (.int (g : Int)))] (by simp [hneg]) ?_
    refine ⟨_, ?_, rfl⟩
    have e1 : a.fdiv (g : Int) = (Rat.divInt a b).num := by
      rw [fdiv_exact d1, hnum, Int.sign_eq_one_of_pos (by omega), Int.one_mul]
    have e2 : b.fdiv (g : Int) = (Rat.divInt a b).den := by
      rw [fdiv_exact d2, hden]
      congr 1; omega
    unfold enQ
    simp [ok1, e1, e2, L2']

/-- a fraction of numbers below 2 ^ k -/
def SzQ (k : Nat) (q : Rat) : Prop := Sz k q.num ∧ Sz k (q.den : Int)
theorem Sz.mono {k l : Nat} {i : Int} (h : Sz k i) (hl : k ≤ l) : Sz l i := Nat.lt_of_lt_of_le h (Nat.pow_le_pow_right (by decide) hl)
theorem SzQ.mono {k l : Nat} {q : Rat} (h : SzQ k q) (hl : k ≤ l) : SzQ l q := ⟨h.1.mono hl, h.2.mono hl⟩
theorem Sz.mul {k l : Nat} {i j : Int} (h : Sz k i) (h2 : Sz l j) : Sz (k + l) (i * j) := by
  unfold Sz at *
  rw [Int.natAbs_mul, Nat.pow_add]
  exact Nat.mul_lt_mul_of_lt_of_le h (Nat.le_of_lt h2) (Nat.two_pow_pos _)
theorem Sz.add {k : Nat} {i j : Int} (h : Sz k i) (h2 : Sz k j) : Sz (k + 1) (i + j) := by
  unfold Sz at *
  rw [Nat.pow_succ]
  omega
theorem Sz.sub {k : Nat} {i j : Int} (h : Sz k i) (h2 : Sz k j) : Sz (k + 1) (i - j) := by
  unfold Sz at *
  rw [Nat.pow_succ]
  omega
theorem log2_sz {k : Nat} {i : Int} (h : Sz k i) : i.natAbs.log2 ≤ k := by
  by_cases h0 : i.natAbs = 0
  · rw [h0]; simp
  · exact Nat.le_of_lt ((Nat.log2_lt h0).mpr h)
theorem mulOk_sz {k l : Nat} {i j : Int} (h : Sz k i) (h2 : Sz l j) (hk : k + l < 1000000) : mulOk i j = true := by
  have a := log2_sz h
  have b := log2_sz h2
  have : i.natAbs.log2 + j.natAbs.log2 < 1000000 := by omega
  simp [mulOk, this]
theorem den_ne (q : Rat) : (q.den : Int) ≠ 0 := by have := q.den_nz; omega
theorem at_q0 (q : Rat) : atI [PyData.int q.num, PyData.int q.den] 0 = some (.int q.num) := rfl
theorem at_q1 (q : Rat) : atI [PyData.int q.num, PyData.int q.den] 1 = some (.int q.den) := rfl
theorem run_ret {n : Nat} {m : EM} {ts : List T} {d : D} (h : m (startE n ts) = some (.p d)) : runFn n (sRet m) ts = some (.p d) := by
  unfold runFn
  simp [h]
theorem plus (p q : Rat) (hp : SzQ 4400 p) (hq : SzQ 4400 q) : callT Q.plus [.p (enQ p), .p (enQ q)] = some (.p (enQ (p + q))) := by
  refine callT_p rfl ?_
  unfold Q.plus
  refine run_ret ?_
  have e : p + q = Rat.divInt (p.num * q.den + q.num * p.den) (p.den * q.den) := by
    have := Rat.divInt_add_divInt p.num q.num (den_ne p) (den_ne q)
    rw [Rat.num_divInt_den, Rat.num_divInt_den] at this
    exact this
  have h1 := fraction (p.num * q.den + q.num * p.den) (p.den * q.den) (Int.mul_ne_zero (den_ne p) (den_ne q)) ((hp.2.mul hq.2).mono (by decide))
  rw [← e] at h1
  unfold startE enQ at *
  simp [at_q0, at_q1, mulOk_sz hp.1 hq.2 (by decide), mulOk_sz hq.1 hp.2 (by decide), mulOk_sz hp.2 hq.2 (by decide), h1]
theorem minus (p q : Rat) (hp : SzQ 4400 p) (hq : SzQ 4400 q) : callT Q.minus [.p (enQ p), .p (enQ q)] = some (.p (enQ (p - q))) := by
  refine callT_p rfl ?_
  unfold Q.minus
  refine run_ret ?_
  have e : p - q = Rat.divInt (p.num * q.den - q.num * p.den) (p.den * q.den) := by
    have := Rat.divInt_sub_divInt p.num q.num (den_ne p) (den_ne q)
    rw [Rat.num_divInt_den, Rat.num_divInt_den] at this
    exact this
  have h1 := fraction (p.num * q.den - q.num * p.den) (p.den * q.den) (Int.mul_ne_zero (den_ne p) (den_ne q)) ((hp.2.mul hq.2).mono (by decide))
  rw [← e] at h1
  unfold startE enQ at *
  simp [at_q0, at_q1, mulOk_sz hp.1 hq.2 (by decide), mulOk_sz hq.1 hp.2 (by decide), mulOk_sz hp.2 hq.2 (by decide), h1]
theorem divInt_1 (k : Int) : Rat.divInt k 1 = (k : Rat) := by
  have := Rat.divInt_ofNat k 1
  rw [Rat.mkRat_one] at this
  exact this
theorem times (p : Rat) (k : Int) (hp : SzQ 8000 p) (hk : Sz 8000 k) : callT Q.times [.p (enQ p), .p (.int k)] = some (.p (enQ (p * k))) := by
  refine callT_p rfl ?_
  unfold Q.times
  refine run_ret ?_
  have e : p * k = Rat.divInt (p.num * k) p.den := by
    have := Rat.divInt_mul_divInt p.num k (d₁ := p.den) (d₂ := 1)
    rw [Rat.num_divInt_den, Int.mul_one, divInt_1] at this
    exact this
  have h1 := fraction (p.num * k) p.den (den_ne p) (hp.2.mono (by decide))
  rw [← e] at h1
  unfold startE enQ at *
  simp [at_q0, at_q1, mulOk_sz hp.1 hk (by decide), h1]
theorem over (p : Rat) (k : Int) (hk0 : k ≠ 0) (hp : SzQ 4400 p) (hk : Sz 4400 k) : callT Q.over [.p (enQ p), .p (.int k)] = some (.p (enQ (p / k))) := by
  refine callT_p rfl ?_
  unfold Q.over
  refine run_ret ?_
  have e : p / k = Rat.divInt p.num (p.den * k) := by
    have hk' : (k : Rat) ≠ 0 := by exact_mod_cast hk0
    have h1 : Rat.divInt p.num (p.den * k) * (k : Rat) = p := by
      have := Rat.divInt_mul_divInt p.num k (d₁ := p.den * k) (d₂ := 1)
      rw [divInt_1, Int.mul_one] at this
      rw [this, Rat.divInt_mul_right hk0, Rat.num_divInt_den]
    rw [← h1]
    rw [Rat.div_def, Rat.mul_assoc, Rat.mul_inv_cancel _ hk', Rat.mul_one]
    rw [h1]
  have h1 := fraction p.num (p.den * k) (Int.mul_ne_zero (den_ne p) hk0) ((hp.2.mul hk).mono (by decide))
  rw [← e] at h1
  unfold startE enQ at *
  simp [at_q0, at_q1, mulOk_sz hp.2 hk (by decide), h1]
theorem is_less (p q : Rat) (hp : SzQ 100000 p) (hq : SzQ 100000 q) : callT Q.is_less [.p (enQ p), .p (enQ q)] = some (.p (.bool (decide (p < q)))) := by
  refine callT_p rfl ?_
  unfold Q.is_less
  refine run_ret ?_
  unfold startE enQ
  simp [at_q0, at_q1, mulOk_sz hp.1 hq.2 (by decide), mulOk_sz hq.1 hp.2 (by decide), Rat.lt_iff]
theorem greater (p q : Rat) (hp : SzQ 100000 p) (hq : SzQ 100000 q) : callT Q.greater [.p (enQ p), .p (enQ q)] = some (.p (enQ (if p < q then q else p))) := by
  refine callT_p rfl ?_
  unfold Q.greater runFn startE
  by_cases h : p < q <;> simp [is_less p q hp hq, h]
end B
namespace B
open PySem PySem.Spec PyProof.Rows L2 M

def dot : List Int → List Int → Int
  | p :: ps, a :: as => p * a + dot ps as
  | _, _ => 0
def enM (rows : List (List Int)) : D := .list (rows.map fun r => .list (enI r))
def costs (bk : List Buy) : List (List Int) := bk.map fun b => bk.map fun c => dot b.1 c.2
theorem zip_run : ∀ (ps as : List Int) (env : En), env.length = 4 → (∀ p ∈ ps, p.natAbs < 2 ^ 64) → lcRun (gTp (gCn (gNm 2) (gCn (gNm 3) (gNl)))) bYes (mOp mulT (mVar 2) (mVar 3)) env (zipD (enI ps) (enI as)) = some (enI ((ps.zip as).map fun q => q.1 * q.2))
  | [], _, _, _, _ => rfl
  | _ :: _, [], _, _, _ => rfl
  | p :: ps, a :: as, env, he, hp => by
    have ih := zip_run ps as env he (fun q hq => hp q (List.mem_cons_of_mem _ hq))
    have hm : mulOk p a = true := mulOk_l (hp p List.mem_cons_self)
    have e1 : zipD (enI (p :: ps)) (enI (a :: as)) = .tuple [.int p, .int a] :: zipD (enI ps) (enI as) := rfl
    rw [e1]
    simp only [lcRun]
    simp [-getElem?_pos, he, hm, ih]
    simp [enI]
theorem sum_zip : ∀ ps as : List Int, ((ps.zip as).map fun q => q.1 * q.2).sum = dot ps as
  | [], _ => rfl
  | _ :: _, [] => rfl
  | p :: ps, a :: as => by simp [dot, sum_zip ps as]
theorem cost_at (ps as : List Int) (hp : ∀ p ∈ ps, p.natAbs < 2 ^ 64) (hl : ps.length ≤ 1000) : callT Q.cost_at [.p (.tuple (enI ps)), .p (.tuple (enI as))] = some (.p (.int (dot ps as))) := by
  refine callT_p rfl ?_
  unfold Q.cost_at
  refine run_ret ?_
  have h1 := zip_run ps as [some (.p (.tuple (enI ps))), some (.p (.tuple (enI as))), none, none] rfl hp
  have hz : (enI ((ps.zip as).map fun q => q.1 * q.2)).length ≤ LIM := by
    rw [enI_length, List.length_map, List.length_zip]; unfold LIM; omega
  have hs : ∀ xs : List Int, sumT [.p (.list (enI xs))] = some (.p (.int xs.sum)) := fun xs => by
    unfold enI; simp [sumT, intsOf_map]
  have hi : iZp (mVar 0) (mVar 1) [some (.p (.tuple (enI ps))), some (.p (.tuple (enI as))), none, none] = some (zipD (enI ps) (enI as)) := rfl
  rw [show startE 4 [T.p (.tuple (enI ps)), .p (.tuple (enI as))] = [some (.p (.tuple (enI ps))), some (.p (.tuple (enI as))), none, none] from rfl]
  simp only [ev_mCall, ev_aCons, ev_mLc, hi, Option.bind_some, ev_wipe1, ev_wipe0, List.set_cons_succ, List.set_cons_zero, h1, hz, if_true, ev_aNil, Option.map_some, hs, sum_zip]

structure Priced (bk : List Buy) : Prop where
  few : bk.length ≤ 1000
  pr : ∀ b ∈ bk, b.1.length ≤ 1000 ∧ ∀ p ∈ b.1, p.natAbs < 2 ^ 64
theorem snap_mM (rows : List (List Int)) : (T.ml (rows.map fun r => T.p (.list (enI r)))).snap = some (enM rows) := by
  have := snaps_p (rows.map fun r => PyData.list (enI r))
  rw [List.map_map] at this
  simp only [T.snap]
  rw [show (rows.map fun r => T.p (.list (enI r))) = rows.map (T.p ∘ fun r => PyData.list (enI r)) from rfl, this]
  rfl
def accM (bk : List Buy) (i : Nat) : List T := ((bk.take i).map fun b => bk.map fun c => dot b.1 c.2).map fun r => T.p (.list (enI r))
theorem accM_succ (bk : List Buy) (i : Nat) (hi : i < bk.length) : accM bk (i + 1) = accM bk i ++ [T.p (.list (enI (bk.map fun c => dot bk[i].1 c.2)))] := by
  unfold accM
  rw [List.take_succ, List.getElem?_eq_getElem hi, Option.toList_some, List.map_append, List.map_append]
  rfl
theorem accM_len (bk : List Buy) (i : Nat) (hi : i ≤ bk.length) : (accM bk i).length = i := by
  unfold accM
  simp [hi]
theorem accM_all (bk : List Buy) : accM bk bk.length = (costs bk).map fun r => T.p (.list (enI r)) := by
  unfold accM costs
  rw [List.take_length]
theorem costs_of (bk : List Buy) (h : Priced bk) : callT Q.costs_of [.p (enBk bk)] = some (.p (enM (costs bk))) := by
  have key : Q.costs_of [.p (enBk bk)] = some (.ml ((costs bk).map fun r => T.p (.list (enI r)))) := by
    unfold Q.costs_of
    refine run_of ?_
    rw [show startE 6 [T.p (enBk bk)] = [some (.p (enBk bk)), none, none, none, none, none] from rfl]
    have L0 : 0 ≤ LIM := Nat.zero_le _
    refine oxE [some (.p (enBk bk)), some (.ml []), none, none, none, none] (by simp [L0]) ?_
    obtain ⟨e, he, o2, o3, rfl⟩ := forRun_inv (g := gTp (gCn (gNm 2) (gCn (gNm 3) (gNl)))) (mb := Q.costs_of_L1)
      (fun i e => ∃ o2 o3, e = [some (.p (enBk bk)), some (.ml (accM bk i)), o2, o3, none, none]) (bk.map enB) [some (.p (enBk bk)), some (.ml []), none, none, none, none] 0 ⟨_, _, rfl⟩ (by
        rintro i d e hd ⟨o2, o3, rfl⟩
        have hi : i < bk.length := by
          have := (List.getElem?_eq_some_iff.mp hd).1
          simpa using this
        have hd' : d = enB bk[i] := by
          simp [hi] at hd
          exact hd.symm
        subst hd'
        rw [Nat.zero_add]
        have hp := h.pr _ (List.getElem_mem hi)
        have hf := h.few
        have l1 : lcRun (gTp (gCn (gNm 4) (gCn (gNm 5) (gNl)))) bYes (mCall (callT Q.cost_at) (aCons (mVar 2) (aCons (mVar 5) (aNil)))) [some (.p (enBk bk)), some (.ml (accM bk i)), some (.p (.tuple (enI bk[i].1))), some (.p (.tuple (enI bk[i].2))), none, none] (bk.map enB) = some (enI (bk.map fun c => dot bk[i].1 c.2)) := by
          have := lcRun_map (g := gTp (gCn (gNm 4) (gCn (gNm 5) (gNl)))) (tt := bYes) (me := mCall (callT Q.cost_at) (aCons (mVar 2) (aCons (mVar 5) (aNil)))) (env := [some (.p (enBk bk)), some (.ml (accM bk i)), some (.p (.tuple (enI bk[i].1))), some (.p (.tuple (enI bk[i].2))), none, none]) enB (fun c => .int (dot bk[i].1 c.2)) bk (fun c hc => ⟨_, rfl, rfl, by simp [cost_at bk[i].1 c.2 hp.2 hp.1]⟩)
          rw [this]
          unfold enI
          rw [List.map_map]
          rfl
        refine ⟨[some (.p (enBk bk)), some (.ml (accM bk i)), some (.p (.tuple (enI bk[i].1))), some (.p (.tuple (enI bk[i].2))), none, none], [some (.p (enBk bk)), some (.ml (accM bk (i + 1))), some (.p (.tuple (enI bk[i].1))), some (.p (.tuple (enI bk[i].2))), none, none], rfl, .inl ?_, _, _, rfl⟩
        unfold Q.costs_of_L1
        have hq : bk.length ≤ LIM := by unfold LIM; omega
        have hq2 : (accM bk i).length < LIM := by rw [accM_len bk i (by omega)]; unfold LIM; omega
        rw [accM_succ bk i hi]
        have hany : (T.p (enBk bk)).any? = some (bk.map enB) := rfl
        simp [hany, l1, enI_length, hq, hq2])
    refine oxE _ (by rw [← he]; rfl) ?_
    rw [List.length_map, Nat.zero_add, accM_all]
    exact ⟨_, rfl, rfl⟩
  exact callT_snap rfl key (snap_mM _)

end B
namespace B
open PySem PySem.Spec PyProof.Rows L2 M

abbrev MF := Nat → Nat → Rat
def rowT (n : Nat) (g : Nat → Rat) : T := .ml ((List.range n).map fun j => T.p (enQ (g j)))
def matT (n : Nat) (f : MF) : T := .ml ((List.range n).map fun i => rowT n (f i))
theorem range_set {α : Type} (n a : Nat) (g : Nat → α) (x : α) : ((List.range n).map g).set a x = (List.range n).map fun i => if i = a then x else g i := by
  apply List.ext_getElem?
  intro i
  by_cases hi : i < n
  · by_cases h : i = a
    · subst h
      rw [List.getElem?_set_self' ]
      simp [hi]
    · rw [List.getElem?_set_ne (fun z => h z.symm)]
      simp [hi, h]
  · have h1 : ((List.range n).map g).length ≤ i := by simp; omega
    rw [List.getElem?_eq_none (by simp; omega), List.getElem?_eq_none (by simp; omega)]
theorem at_range {α : Type} {n i : Nat} {g : Nat → α} (hi : i < n) : atI ((List.range n).map g) (i : Int) = some (g i) := by
  rw [atI_lt (by omega) (by simp; omega)]
  simp
theorem ix_range {α : Type} {n i : Nat} {g : Nat → α} (hi : i < n) : ixN ((List.range n).map g).length (i : Int) = some i := by
  rw [ixN_of (by omega) (by simp; omega)]
  simp
@[simp] theorem strip_matT {n : Nat} {f : MF} : (matT n f).strip = matT n f := rfl
@[simp] theorem strip_rowT {n : Nat} {g : Nat → Rat} : (rowT n g).strip = rowT n g := rfl
@[simp] theorem wrap_matT {n : Nat} {f : MF} {u : T} : (matT n f).wrap u = u := rfl
@[simp] theorem wrap_rowT {n : Nat} {g : Nat → Rat} {u : T} : (rowT n g).wrap u = u := rfl
def fwv (f : MF) (by' i j : Nat) : Rat := if f i by' < f by' j then f by' j else f i by'
def fwc (f : MF) (by' i j : Nat) : Prop := i ≠ j ∧ by' ≠ i ∧ by' ≠ j ∧ fwv f by' i j < f i j
instance (f : MF) (b i j : Nat) : Decidable (fwc f b i j) := by unfold fwc; infer_instance
def phase (f : MF) (by' : Nat) : MF := fun i j => if fwc f by' i j then fwv f by' i j else f i j
end B
namespace B
open PySem PySem.Spec PyProof.Rows L2 M

abbrev Par := List (Nat × Option Nat)
def enO : Option Nat → D
  | none => .none
  | some h => .int h
def enP (p : Nat × Option Nat) : Key × D := (.inl (p.1 : Int), enO p.2)
def natI (w : List Nat) : List Int := w.map fun (k : Nat) => (k : Int)
def mN (w : List Nat) : T := mI (natI w)
theorem valD_en (ks : Par) (k : Nat) : valD (ks.map enP) (.inl (k : Int)) = (ks.find? fun p => decide (p.1 = k)).map fun p => enO p.2 := by
  unfold valD
  induction ks with
  | nil => rfl
  | cons p r ih =>
    simp only [List.map_cons, List.find?_cons]
    by_cases h : p.1 = k
    · have : (enP p).1 = (.inl (k : Int) : Key) := by simp [enP, h]
      simp [this, h]; rfl
    · have : ¬ (enP p).1 = (.inl (k : Int) : Key) := by
        simp only [enP]
        intro z
        exact h (by injection z with z; omega)
      simp [this, h]
      simpa using ih
theorem find_some {ks : Par} {k : Nat} : ((ks.find? fun p => decide (p.1 = k)).isSome = true) ↔ k ∈ ks.map (·.1) := by
  simp [List.find?_isSome]
theorem isSome_en (ks : Par) (k : Nat) : (valD (ks.map enP) (.inl (k : Int))).isSome = decide (k ∈ ks.map (·.1)) := by
  rw [valD_en, Option.isSome_map, Bool.eq_iff_iff, find_some]
  simp
theorem putD_en {ks : Par} {k h : Nat} (hk : k ∉ ks.map (·.1)) : putD (ks.map enP) (.inl (k : Int)) (.int h) = (ks ++ [(k, some h)]).map enP := by
  unfold putD
  rw [if_neg]
  · simp [enP, enO]
  · intro z
    obtain ⟨q, hq, e⟩ := List.any_eq_true.mp z
    obtain ⟨p, hp, rfl⟩ := List.mem_map.mp hq
    have : p.1 = k := by
      have e' := of_decide_eq_true e
      simp only [enP] at e'
      injection e' with e'; omega
    exact hk (this ▸ List.mem_map_of_mem hp)
/-- what the search has found -/
inductive Tree (W : Nat → Nat → Prop) (one : Nat) : Par → Prop
  | root : Tree W one [(one, none)]
  | snoc {ks : Par} {h k : Nat} : Tree W one ks → h ∈ ks.map (·.1) → k ∉ ks.map (·.1) → W h k → Tree W one (ks ++ [(k, some h)])
section
variable {W : Nat → Nat → Prop} {one : Nat}
theorem Tree.nodup {ks : Par} (t : Tree W one ks) : (ks.map (·.1)).Nodup := by
  induction t with
  | root => simp
  | snoc t h1 h2 h3 ih =>
    rw [List.map_append]
    refine List.nodup_append.mpr ⟨ih, by simp, fun a ha b hb => ?_⟩
    intro e
    subst e
    simp at hb
    subst hb
    exact h2 ha
theorem Tree.one_mem {ks : Par} (t : Tree W one ks) : one ∈ ks.map (·.1) := by
  induction t with
  | root => simp
  | snoc t h1 h2 h3 ih => rw [List.map_append]; exact List.mem_append_left _ ih
/-- a way: each step is open -/
def Steps (W : Nat → Nat → Prop) : List Nat → Prop
  | [] => True
  | [_] => True
  | a :: b :: r => W a b ∧ Steps W (b :: r)
theorem Steps.snoc : ∀ {p : List Nat} {h k : Nat}, Steps W p → p.getLast? = some h → W h k → Steps W (p ++ [k])
  | [], _, _, _, e, _ => by simp at e
  | [a], _, _, _, e, w => by simp at e; subst e; exact ⟨w, trivial⟩
  | a :: b :: r, h, k, s, e, w => ⟨s.1, Steps.snoc (p := b :: r) s.2 (by simpa using e) w⟩
structure Way (W : Nat → Nat → Prop) (one other : Nat) (p : List Nat) : Prop where
  hd : p.head? = some one
  lst : p.getLast? = some other
  st : Steps W p
  nd : p.Nodup
theorem find_mid {ks more : Par} {k : Nat} {o : Option Nat} (h : k ∉ ks.map (·.1)) : ((ks ++ (k, o) :: more).find? fun p => decide (p.1 = k)) = some (k, o) := by
  induction ks with
  | nil => simp
  | cons p r ih =>
    have h1 : p.1 ≠ k := fun e => h (by simp [e])
    have h2 : k ∉ r.map (·.1) := fun e => h (by simp at e ⊢; exact .inr e)
    simp [h1]
    simpa using ih h2
theorem at_head (k : Nat) (w : List Nat) : atI ((enI (natI (k :: w))).map T.p) 0 = some (.p (.int k)) := by
  rw [atI_lt (by decide) (by simp [natI, enI])]
  rfl
theorem ins_head (k h : Nat) (w : List Nat) (hl : (k :: w).length < LIM) : insN ((enI (natI (k :: w))).map T.p) 0 (.int h) = some ((enI (natI (h :: k :: w))).map T.p) := by
  unfold insN
  rw [if_pos ⟨by decide, by decide, by simpa [natI, enI] using hl⟩]
  rfl
def tailEnv (ways : T) (one other : Nat) (ks : Par) (o4 o5 o6 : Option T) (told : List Nat) : En := [some ways, some (.p (.int one)), some (.p (.int other)), some (.md (ks.map enP)), o4, o5, o6, some (mN told)]
/-- the way back -/
theorem back (ways : T) (other : Nat) (o4 o5 o6 : Option T) (ksF : Par) (hF : (ksF.map (·.1)).Nodup) {ks : Par} (t : Tree W one ks) : ∀ (more : Par), ksF = ks ++ more → ∀ (c : Nat) (tl : List Nat) (fuel : Nat), c ∈ ks.map (·.1) → ks.length ≤ fuel → tl.length + ks.length < 1000 →
    ∃ p, whileRun (bOp M.neT (mOp idxT (mVar 7) (mC (.int 0))) (mVar 1)) Q.way_between_L3 fuel (tailEnv ways one other ksF o4 o5 o6 (c :: tl)) = some (.nx (tailEnv ways one other ksF o4 o5 o6 (p ++ tl))) ∧ Way W one c p ∧ ∀ x ∈ p, x ∈ ks.map (·.1) := by
  have hend : ∀ (tl : List Nat) (fuel : Nat), 1 ≤ fuel → whileRun (bOp M.neT (mOp idxT (mVar 7) (mC (.int 0))) (mVar 1)) Q.way_between_L3 fuel (tailEnv ways one other ksF o4 o5 o6 (one :: tl)) = some (.nx (tailEnv ways one other ksF o4 o5 o6 (one :: tl))) := by
    intro tl fuel hf
    obtain ⟨m, rfl⟩ : ∃ m, fuel = m + 1 := ⟨fuel - 1, by omega⟩
    have := at_head one tl
    unfold tailEnv mN mI
    simp [whileRun, this]
  induction t with
  | root =>
    intro more hm c tl fuel hc hf hlen
    have hc' : c = one := by simpa using hc
    subst hc'
    exact ⟨[c], hend tl fuel (by simpa using hf), ⟨rfl, rfl, trivial, by simp⟩, by simp⟩
  | @snoc ks h k t h1 h2 h3 ih =>
    intro more hm c tl fuel hc hf hlen
    rw [List.length_append, List.length_singleton] at hf hlen
    by_cases hck : c ∈ ks.map (·.1)
    · obtain ⟨p, a1, a2, a3⟩ := ih ((k, some h) :: more) (by rw [hm]; simp) c tl fuel hck (by omega) (by omega)
      exact ⟨p, a1, a2, fun x hx => by rw [List.map_append]; exact List.mem_append_left _ (a3 x hx)⟩
    · have hcE : c = k := by
        rw [List.map_append, List.mem_append] at hc
        rcases hc with z | z
        · exact absurd z hck
        · simpa using z
      subst hcE
      by_cases hone : c = one
      · subst hone
        exact absurd t.one_mem hck
      · obtain ⟨m, rfl⟩ : ∃ m, fuel = m + 1 := ⟨fuel - 1, by omega⟩
        obtain ⟨p, a1, a2, a3⟩ := ih ((c, some h) :: more) (by rw [hm]; simp) h (c :: tl) m h1 (by omega) (by simp; omega)
        have hv : valD (ksF.map enP) (.inl (c : Int)) = some (.int h) := by
          rw [valD_en, hm, List.append_assoc, List.singleton_append, find_mid h2]
          rfl
        have hone' : ¬ (c : Int) = (one : Int) := by omega
        have hb : Q.way_between_L3 (tailEnv ways one other ksF o4 o5 o6 (c :: tl)) = some (.nx (tailEnv ways one other ksF o4 o5 o6 (h :: c :: tl))) := by
          have e1 := at_head c tl
          have e2 := ins_head c h tl (by simp; unfold LIM; omega)
          unfold Q.way_between_L3 tailEnv mN mI
          simp [dGetT, T.dct?, keyOf?, e1, hv, e2]
        refine ⟨p ++ [c], ?_, ?_, ?_⟩
        · have e1 := at_head c tl
          rw [List.append_assoc, List.singleton_append, ← a1]
          have hcond : bOp M.neT (mOp idxT (mVar 7) (mC (.int 0))) (mVar 1) (tailEnv ways one other ksF o4 o5 o6 (c :: tl)) = some true := by
            unfold tailEnv mN mI
            simp [e1, hone']
          rw [whileRun, hcond, Option.bind_some, if_pos rfl, hb]
          rfl
        · refine ⟨?_, by simp, a2.st.snoc a2.lst h3, ?_⟩
          · cases p with
            | nil => have := a2.hd; simp at this
            | cons x r => have := a2.hd; simpa using this
          · refine List.nodup_append.mpr ⟨a2.nd, by simp, fun x hx y hy => ?_⟩
            have : y = c := by simpa using hy
            subst this
            intro e; subst e; exact h2 (a3 _ hx)
        · intro x hx
          rw [List.map_append]
          rcases List.mem_append.mp hx with z | z
          · exact List.mem_append_left _ (a3 x z)
          · exact List.mem_append_right _ (by simpa using z)
end
end B
namespace B
open PySem PySem.Spec PyProof.Rows L2 M

def enW (rows : List (List Bool)) : D := .list (rows.map fun r => .list (enBl r))
def wv (rows : List (List Bool)) (a b : Nat) : Prop := ((rows.getD a []).getD b false) = true
instance (rows : List (List Bool)) (a b : Nat) : Decidable (wv rows a b) := by unfold wv; infer_instance
structure SqW (rows : List (List Bool)) : Prop where
  sq : ∀ r ∈ rows, r.length = rows.length
  few : rows.length ≤ 100
theorem wv_lt {rows : List (List Bool)} (h : SqW rows) {a b : Nat} (w : wv rows a b) : a < rows.length ∧ b < rows.length := by
  unfold wv at w
  by_cases ha : a < rows.length
  · refine ⟨ha, ?_⟩
    rw [List.getD_eq_getElem?_getD, List.getD_eq_getElem?_getD, List.getElem?_eq_getElem ha] at w
    by_cases hb : b < rows[a].length
    · have := h.sq _ (List.getElem_mem ha); omega
    · simp [List.getElem?_eq_none (Nat.le_of_not_lt hb)] at w
  · rw [List.getD_eq_getElem?_getD, List.getD_eq_getElem?_getD, List.getElem?_eq_none (Nat.le_of_not_lt ha)] at w
    simp at w
theorem way_at {rows : List (List Bool)} (h : SqW rows) {a b : Nat} (ha : a < rows.length) (hb : b < rows.length) : ∃ r, atI (rows.map fun r => PyData.list (enBl r)) (a : Int) = some (.list (enBl r)) ∧ atI (enBl r) (b : Int) = some (.bool (decide (wv rows a b))) := by
  refine ⟨rows[a], ?_, ?_⟩
  · rw [atI_lt (by omega) (by simp; omega)]
    simp
  · have hl := h.sq _ (List.getElem_mem ha)
    unfold enBl
    rw [atI_lt (by omega) (by simp; omega)]
    simp only [List.getElem_map, Int.toNat_natCast]
    congr 2
    rw [Bool.eq_iff_iff]
    unfold wv
    simp [List.getD_eq_getElem?_getD, ha, show b < rows[a].length by omega]
inductive Reach (W : Nat → Nat → Prop) (one : Nat) : Nat → Prop
  | refl : Reach W one one
  | step {h k : Nat} : Reach W one h → W h k → Reach W one k

def bEnv (rows : List (List Bool)) (one other : Nat) (ks : Par) (wait : List Nat) (o5 o6 : Option T) : En := [some (.p (enW rows)), some (.p (.int one)), some (.p (.int other)), some (.md (ks.map enP)), some (mN wait), o5, o6, none]
structure BJ (rows : List (List Bool)) (one : Nat) (ks : Par) (wait : List Nat) : Prop where
  tr : Tree (wv rows) one ks
  lt : ∀ k ∈ ks.map (·.1), k < rows.length
  wk : ∀ k ∈ wait, k ∈ ks.map (·.1)
  cl : ∀ k ∈ ks.map (·.1), k ∉ wait → ∀ j, wv rows k j → j ∈ ks.map (·.1)
theorem nodup_le {l : List Nat} {n : Nat} (h : l.Nodup) (hl : ∀ x ∈ l, x < n) : l.length ≤ n := by
  have h1 : (natI l).Nodup := by
    unfold natI
    exact List.pairwise_map.mpr (h.imp (fun {a b} z e => z (by omega)))
  have h2 := nodup_sub_le (l := natI l) (m := natI (List.range n)) h1 (by
    intro x hx
    obtain ⟨k, hk, rfl⟩ := List.mem_map.mp hx
    exact List.mem_map.mpr ⟨k, List.mem_range.mpr (hl k hk), rfl⟩)
  simpa [natI] using h2
theorem BJ.few {rows : List (List Bool)} {one : Nat} {ks : Par} {wait : List Nat} (j : BJ rows one ks wait) : ks.length ≤ rows.length := by
  have := nodup_le j.tr.nodup j.lt
  simpa using this
theorem mN_app (w : List Nat) (k : Nat) : T.ml ((enI (natI w)).map T.p ++ [T.p (.int k)]) = mN (w ++ [k]) := by
  rw [mp_app]
  unfold mN mI natI
  simp
theorem row_turn {rows : List (List Bool)} (hW : SqW rows) (one other here : Nat) (hh : here < rows.length) (ks0 : Par) (wait0 : List Nat) (hk0 : here ∈ ks0.map (·.1)) (t0 : Tree (wv rows) one ks0) (lt0 : ∀ k ∈ ks0.map (·.1), k < rows.length) (wk0 : ∀ k ∈ wait0, k ∈ ks0.map (·.1)) (hwl : wait0.length ≤ 1000) (o6 : Option T) :
    ∃ ks wait o6', forRun (gNm 6) Q.way_between_L1 (rangeD 0 rows.length) (bEnv rows one other ks0 wait0 (some (.p (.int here))) o6) = some (.nx (bEnv rows one other ks wait (some (.p (.int here))) o6')) ∧
      Tree (wv rows) one ks ∧ (∀ k ∈ ks.map (·.1), k < rows.length) ∧ (∀ k ∈ wait, k ∈ ks.map (·.1)) ∧ (∀ k ∈ ks0.map (·.1), k ∈ ks.map (·.1)) ∧ ks.length + wait0.length = ks0.length + wait.length ∧ (∀ k ∈ ks.map (·.1), k ∉ wait → k ∈ ks0.map (·.1)) ∧ (∀ k ∈ wait0, k ∈ wait) ∧ ∀ j, wv rows here j → j ∈ ks.map (·.1) := by
  obtain ⟨e, he, ks, wait, o6', rfl, h1, h2, h3, h4, h5, h6, h7, h8⟩ := forRun_inv (g := gNm 6) (mb := Q.way_between_L1)
    (fun i e => ∃ ks wait o6, e = bEnv rows one other ks wait (some (.p (.int here))) o6 ∧ Tree (wv rows) one ks ∧ (∀ k ∈ ks.map (·.1), k < rows.length) ∧ (∀ k ∈ wait, k ∈ ks.map (·.1)) ∧ (∀ k ∈ ks0.map (·.1), k ∈ ks.map (·.1)) ∧ ks.length + wait0.length = ks0.length + wait.length ∧ (∀ k ∈ ks.map (·.1), k ∉ wait → k ∈ ks0.map (·.1)) ∧ (∀ k ∈ wait0, k ∈ wait) ∧ ∀ j, j < i → wv rows here j → j ∈ ks.map (·.1))
    (rangeD 0 rows.length) (bEnv rows one other ks0 wait0 (some (.p (.int here))) o6) 0
    ⟨ks0, wait0, o6, rfl, t0, lt0, wk0, fun _ h => h, by omega, fun _ h _ => h, fun _ h => h, fun j hj => by omega⟩ (by
      rintro i d e hd ⟨ks, wait, o6, rfl, h1, h2, h3, h4, h5, h6, h7, h8⟩
      have hi : i < rows.length := by
        have := (List.getElem?_eq_some_iff.mp hd).1
        simpa [rangeD] using this
      have hd' : d = .int i := by
        simp [rangeD, hi] at hd
        exact hd.symm
      subst hd'
      rw [Nat.zero_add] at h8 ⊢
      obtain ⟨r, a1, a2⟩ := way_at hW hh hi
      have hin := isSome_en ks i
      have hkl : ks.length ≤ rows.length := by
        have := nodup_le h1.nodup h2
        simpa using this
      have hfew := hW.few
      unfold Q.way_between_L1
      by_cases hw : wv rows here i
      · by_cases hk : i ∈ ks.map (·.1)
        · refine ⟨_, bEnv rows one other ks wait (some (.p (.int here))) (some (.p (.int i))), rfl, .inl ?_, ks, wait, _, rfl, h1, h2, h3, h4, h5, h6, h7, fun j hj hjw => ?_⟩
          · obtain ⟨dv, hin'⟩ : ∃ dv, valD (ks.map enP) (.inl (i : Int)) = some dv := Option.isSome_iff_exists.mp (by rw [hin]; simp only [hk, decide_true])
            unfold bEnv enW
            simp [a1, a2, hw, dNotInT, T.dct?, keyOf?, hin']
          · by_cases z : j = i
            · subst z; exact hk
            · exact h8 j (by omega) hjw
        · refine ⟨_, bEnv rows one other (ks ++ [(i, some here)]) (wait ++ [i]) (some (.p (.int here))) (some (.p (.int i))), rfl, .inl ?_, _, _, _, rfl, ?_, ?_, ?_, ?_, ?_, ?_, ?_, ?_⟩
          · have hin' : valD (ks.map enP) (.inl (i : Int)) = none := by
              have : (valD (ks.map enP) (.inl (i : Int))).isSome = false := by rw [hin]; simp only [hk, decide_false]
              simpa using this
            have hput := putD_en (h := here) hk
            have hz : ks.length < LIM := by unfold LIM; omega
            have hz2 : wait.length < LIM := by unfold LIM; omega
            have hz3 : (natI wait).length < LIM := by unfold natI; simpa using hz2
            have happ := mN_app wait i
            unfold bEnv enW
            simp only [ev_sIf, ev_bAnd, ev_bVal, ev_bOp]
            rw [← happ]
            simp only [mN, mI]
            simp [-List.map_append, a1, a2, hw, dNotInT, T.dct?, keyOf?, hin', M.sDPut, hz, hput, enI_length, hz3]
          · exact h1.snoc (h4 _ hk0) hk hw
          · intro k hk'
            rw [List.map_append, List.mem_append] at hk'
            rcases hk' with z | z
            · exact h2 k z
            · have : k = i := by simpa using z
              omega
          · intro k hk'
            rw [List.map_append]
            rcases List.mem_append.mp hk' with z | z
            · exact List.mem_append_left _ (h3 k z)
            · exact List.mem_append_right _ (by simpa using z)
          · intro k hk'
            rw [List.map_append]
            exact List.mem_append_left _ (h4 k hk')
          · simp only [List.length_append, List.length_singleton]; omega
          · intro k hk' hn
            rw [List.map_append, List.mem_append] at hk'
            rcases hk' with z | z
            · exact h6 k z (fun y => hn (List.mem_append_left _ y))
            · exact absurd (List.mem_append_right wait (by simpa using z)) hn
          · intro k hk'
            exact List.mem_append_left _ (h7 k hk')
          · intro j hj hjw
            rw [List.map_append]
            by_cases z : j = i
            · subst z; exact List.mem_append_right _ (by simp)
            · exact List.mem_append_left _ (h8 j (by omega) hjw)
      · refine ⟨_, bEnv rows one other ks wait (some (.p (.int here))) (some (.p (.int i))), rfl, .inl ?_, ks, wait, _, rfl, h1, h2, h3, h4, h5, h6, h7, fun j hj hjw => ?_⟩
        · unfold bEnv enW
          simp [a1, a2, hw]
        · by_cases z : j = i
          · subst z; exact absurd hjw hw
          · exact h8 j (by omega) hjw)
  refine ⟨ks, wait, o6', he, h1, h2, h3, h4, h5, h6, h7, fun j hj => h8 j ?_ hj⟩
  have := (wv_lt hW hj).2
  simpa [rangeD] using this
end B
namespace B
open PySem PySem.Spec PyProof.Rows L2 M

theorem pop_head (env : En) (h : Nat) (w : List Nat) (e4 : env[4]? = some (some (mN (h :: w)))) : sSetPopAt 5 (pVar 4) (mC (.int 0)) env = some (.nx ((env.set 4 (some (mN w))).set 5 (some (.p (.int h))))) := by
  have h1 : ixN ((enI (natI (h :: w))).map T.p).length 0 = some 0 := ixN_of (by decide) (by simp [natI, enI])
  unfold sSetPopAt popN
  simp only [mN, mI] at *
  simp [-List.length_map, e4, h1, natI, enI]
  simp [natI, enI] at h1
  simp [h1]
theorem ne_nil_mI (xs : List Int) : M.neT (mI xs) (.p (.list [])) = some (.p (.bool (!xs.isEmpty))) := by
  have := ne_nil_ints xs
  unfold M.neT at *
  rw [snap_mI]
  simpa using this
theorem search {rows : List (List Bool)} (hW : SqW rows) (one other : Nat) : ∀ (fuel : Nat) (ks : Par) (wait : List Nat) (o5 o6 : Option T), BJ rows one ks wait → rows.length - ks.length + wait.length ≤ 1000 → rows.length - ks.length + wait.length < fuel →
    ∃ ks' wait' o5' o6', whileRun (bAnd (bOp M.neT (mVar 4) (mLst (aNil))) (bOp dNotInT (mVar 2) (mVar 3))) Q.way_between_L2 fuel (bEnv rows one other ks wait o5 o6) = some (.nx (bEnv rows one other ks' wait' o5' o6')) ∧ BJ rows one ks' wait' ∧ (wait' = [] ∨ other ∈ ks'.map (·.1))
  | 0, _, _, _, _, _, _, hf => by omega
  | fuel + 1, ks, wait, o5, o6, hJ, hwl, hf => by
    have hin := isSome_en ks other
    have L0 : 0 ≤ LIM := Nat.zero_le _
    have hne := ne_nil_mI (natI wait)
    by_cases hk : other ∈ ks.map (·.1)
    · refine ⟨ks, wait, o5, o6, ?_, hJ, .inr hk⟩
      obtain ⟨dv, hin'⟩ : ∃ dv, valD (ks.map enP) (.inl (other : Int)) = some dv := Option.isSome_iff_exists.mp (by rw [hin]; simp only [hk, decide_true])
      have hc : bAnd (bOp M.neT (mVar 4) (mLst (aNil))) (bOp dNotInT (mVar 2) (mVar 3)) (bEnv rows one other ks wait o5 o6) = some false := by
        unfold bEnv
        cases hw : (natI wait).isEmpty <;> rw [hw] at hne <;> simp [mN, hne, L0, dNotInT, T.dct?, keyOf?, hin']
      rw [whileRun, hc]
      rfl
    · have hin' : valD (ks.map enP) (.inl (other : Int)) = none := by
        have : (valD (ks.map enP) (.inl (other : Int))).isSome = false := by rw [hin]; simp only [hk, decide_false]
        simpa using this
      cases wait with
      | nil =>
        refine ⟨ks, [], o5, o6, ?_, hJ, .inl rfl⟩
        have hc : bAnd (bOp M.neT (mVar 4) (mLst (aNil))) (bOp dNotInT (mVar 2) (mVar 3)) (bEnv rows one other ks [] o5 o6) = some false := by
          unfold bEnv
          simp [mN, hne, L0, natI]
          have : M.neT (mI []) (.p (.list [])) = some (.p (.bool false)) := hne
          simp [this]
        rw [whileRun, hc]
        rfl
      | cons h w =>
        have hc : bAnd (bOp M.neT (mVar 4) (mLst (aNil))) (bOp dNotInT (mVar 2) (mVar 3)) (bEnv rows one other ks (h :: w) o5 o6) = some true := by
          have hne' : M.neT (mI (natI (h :: w))) (.p (.list [])) = some (.p (.bool true)) := hne
          unfold bEnv
          simp [mN, hne', L0, dNotInT, T.dct?, keyOf?, hin']
        have hhk : h ∈ ks.map (·.1) := hJ.wk h List.mem_cons_self
        have hhl := hJ.lt h hhk
        obtain ⟨ks', wait', o6', he, t1, t2, t3, t4, t5, t6, t7, t8⟩ := row_turn hW one other h hhl ks w hhk hJ.tr hJ.lt (fun k hk => hJ.wk k (List.mem_cons_of_mem _ hk)) (by rw [List.length_cons] at hwl; omega) o6
        have hJ' : BJ rows one ks' wait' := ⟨t1, t2, t3, fun k hk hn j hj => by
          by_cases z : k = h
          · subst z; exact t8 j hj
          · have h0 := t6 k hk hn
            have hnw : k ∉ h :: w := by
              intro y
              rcases List.mem_cons.mp y with y | y
              · exact z y
              · exact hn (t7 k y)
            exact t4 j (hJ.cl k h0 hnw j hj)⟩
        have hb : Q.way_between_L2 (bEnv rows one other ks (h :: w) o5 o6) = some (.nx (bEnv rows one other ks' wait' (some (.p (.int h))) o6')) := by
          unfold Q.way_between_L2
          rw [stepS (pop_head _ h w (by unfold bEnv; rfl))]
          have : ((bEnv rows one other ks (h :: w) o5 o6).set 4 (some (mN w))).set 5 (some (.p (.int h))) = bEnv rows one other ks w (some (.p (.int h))) o6 := rfl
          rw [this, ← he]
          have hsm : smallI (rows.length : Int) := by have := hW.few; unfold smallI; omega
          unfold bEnv enW
          simp [hsm]
        have hfew := hJ.few
        have hfew' := hJ'.few
        have hwf := hW.few
        obtain ⟨ks2, wait2, p5, p6, h1, h2, h3⟩ := search hW one other fuel ks' wait' (some (.p (.int h))) o6' hJ' (by rw [List.length_cons] at hwl; omega) (by rw [List.length_cons] at hf; omega)
        refine ⟨ks2, wait2, p5, p6, ?_, h2, h3⟩
        rw [whileRun, hc, Option.bind_some, if_pos rfl, hb]
        exact h1
def enR : Option (List Nat) → D
  | none => .none
  | some p => .list (enI (natI p))
theorem way_between {rows : List (List Bool)} (hW : SqW rows) {one other : Nat} (h1 : one < rows.length) (h2 : other < rows.length) :
    ∃ r : Option (List Nat), callT Q.way_between [.p (enW rows), .p (.int one), .p (.int other)] = some (.p (enR r)) ∧ (∀ p, r = some p → Way (wv rows) one other p ∧ ∀ x ∈ p, x < rows.length) ∧ (r = none → ¬ Reach (wv rows) one other) := by
  have L1 : 1 ≤ LIM := by decide
  have J0 : BJ rows one [(one, none)] [one] := ⟨.root, by simpa using h1, by simp, fun k hk hn => by simp at hk hn; exact absurd hk hn⟩
  have hwf := hW.few
  obtain ⟨ks, wait, o5, o6, he, hJ, hend⟩ := search hW one other FUEL [(one, none)] [one] none none J0 (by simp; omega) (by unfold FUEL; simp; omega)
  have hin := isSome_en ks other
  have hkl := hJ.few
  have s1 : ∀ rest : SM, sCons (sSetF 3 (mDOne (mVar 1) (mC .none))) (sCons (sSetF 4 (mLstF (aCons (mPure (mVar 1)) (aNil)))) (sCons (sWhile FUEL (bAnd (bOp M.neT (mVar 4) (mLst (aNil))) (bOp dNotInT (mVar 2) (mVar 3))) Q.way_between_L2) rest)) [some (.p (enW rows)), some (.p (.int one)), some (.p (.int other)), none, none, none, none, none] = rest (bEnv rows one other ks wait o5 o6) := by
    intro rest
    rw [stepS (e := [some (.p (enW rows)), some (.p (.int one)), some (.p (.int other)), some (.md ([(one, none)].map enP)), none, none, none, none]) (by simp [mDOne, keyOf?, enP, enO])]
    rw [stepS (e := bEnv rows one other [(one, none)] [one] none none) (by simp [L1, bEnv, mN, mI, natI, enI])]
    rw [stepS (by rw [ev_sWhile]; exact he)]
  by_cases hk : other ∈ ks.map (·.1)
  · obtain ⟨dv, hin'⟩ : ∃ dv, valD (ks.map enP) (.inl (other : Int)) = some dv := Option.isSome_iff_exists.mp (by rw [hin]; simp only [hk, decide_true])
    obtain ⟨p, b1, b2, b3⟩ := back (.p (enW rows)) other (some (mN wait)) o5 o6 ks hJ.tr.nodup hJ.tr [] (by simp) other [] FUEL hk (by unfold FUEL; omega) (by simp; omega)
    refine ⟨some p, ?_, fun q hq => ?_, fun z => by cases z⟩
    · have key : Q.way_between [.p (enW rows), .p (.int one), .p (.int other)] = some (mN p) := by
        unfold Q.way_between
        refine run_of ?_
        rw [show startE 8 [.p (enW rows), .p (.int one), .p (.int other)] = [some (.p (enW rows)), some (.p (.int one)), some (.p (.int other)), none, none, none, none, none] from rfl, s1]
        refine oxE (bEnv rows one other ks wait o5 o6) (by unfold bEnv; simp [dNotInT, T.dct?, keyOf?, hin']) ?_
        refine oxE (tailEnv (.p (enW rows)) one other ks (some (mN wait)) o5 o6 [other]) (by unfold bEnv tailEnv; simp [L1, mN, mI, natI, enI]) ?_
        refine oxE (tailEnv (.p (enW rows)) one other ks (some (mN wait)) o5 o6 p) (by rw [ev_sWhile, b1]; simp) ?_
        exact ⟨_, rfl, rfl⟩
      exact callT_snap rfl key (snap_mI _)
    · cases hq
      exact ⟨b2, fun x hx => hJ.lt x (b3 x hx)⟩
  · have hin' : valD (ks.map enP) (.inl (other : Int)) = none := by
      have : (valD (ks.map enP) (.inl (other : Int))).isSome = false := by rw [hin]; simp only [hk, decide_false]
      simpa using this
    refine ⟨none, ?_, fun q hq => (by cases hq), fun _ hr => ?_⟩
    · refine callT_p rfl ?_
      unfold Q.way_between
      refine run_of ?_
      rw [show startE 8 [.p (enW rows), .p (.int one), .p (.int other)] = [some (.p (enW rows)), some (.p (.int one)), some (.p (.int other)), none, none, none, none, none] from rfl, s1]
      refine ⟨.rt (.p .none), ?_, rfl⟩
      unfold bEnv
      simp [dNotInT, T.dct?, keyOf?, hin']
    · have hw : wait = [] := hend.resolve_right hk
      subst hw
      have : ∀ k, Reach (wv rows) one k → k ∈ ks.map (·.1) := by
        intro k hr
        induction hr with
        | refl => exact hJ.tr.one_mem
        | step _ w ih => exact hJ.cl _ ih (by simp) _ w
      exact hk (this other hr)
end B
namespace B
open PySem PySem.Spec PyProof.Rows L2 M

theorem rng_at {n i : Nat} {d : D} (h : (rangeD 0 n)[i]? = some d) : i < n ∧ d = .int i := by
  have hi : i < n := by
    have := (List.getElem?_eq_some_iff.mp h).1
    simpa [rangeD] using this
  refine ⟨hi, ?_⟩
  simp [rangeD, hi] at h
  exact h.symm
theorem rng_len (n : Nat) : (rangeD 0 (n : Int)).length = n := by simp [rangeD]
/-- all phases -/
def fw (f : MF) : Nat → MF
  | 0 => f
  | k + 1 => phase (fw f k) k
theorem reach_trans {W : Nat → Nat → Prop} {a b c : Nat} (h1 : Reach W a b) (h2 : Reach W b c) : Reach W a c := by
  induction h2 with
  | refl => exact h1
  | step _ w ih => exact .step ih w
/-- a step of at most c between two of n -/
def Ed (n : Nat) (S : MF) (c : Rat) (i j : Nat) : Prop := i < n ∧ j < n ∧ i ≠ j ∧ S i j ≤ c
end B
namespace B
open PySem PySem.Spec PyProof.Rows L2 M

def cM (bk : List Buy) (i j : Nat) : Int := dot (bk.getD i ([], [])).1 (bk.getD j ([], [])).2
def cRow (bk : List Buy) (i : Nat) : List Int := (List.range bk.length).map fun j => cM bk i j
theorem getD_lt {bk : List Buy} {i : Nat} (h : i < bk.length) : bk.getD i ([], []) = bk[i] := by simp [List.getD, h]
theorem map_range {α : Type} (bk : List Buy) (g : Buy → α) : bk.map g = (List.range bk.length).map fun i => g (bk.getD i ([], [])) := by
  apply List.ext_getElem
  · simp
  · intro i h1 h2
    simp at h1
    simp [h1]
theorem costs_range (bk : List Buy) : costs bk = (List.range bk.length).map (cRow bk) := by
  unfold costs cRow cM
  rw [map_range bk fun b => bk.map fun c => dot b.1 c.2]
  apply List.map_congr_left
  intro i _
  rw [map_range bk fun c => dot (bk.getD i ([], [])).1 c.2]
def enC (bk : List Buy) : D := .list ((List.range bk.length).map fun i => .list (enI (cRow bk i)))
theorem enM_costs (bk : List Buy) : enM (costs bk) = enC bk := by
  unfold enM enC
  rw [costs_range, List.map_map]
  rfl
structure CostOk (bk : List Buy) : Prop where
  few : bk.length ≤ 100
  pr : Priced bk
  pos : ∀ i, i < bk.length → 0 < cM bk i i
  nn : ∀ i j, i < bk.length → j < bk.length → 0 ≤ cM bk i j
  sz : ∀ i j, i < bk.length → j < bk.length → Sz 900 (cM bk i j)
theorem szq_divInt {k : Nat} {a b : Int} (hb : b ≠ 0) (ha : Sz k a) (hb' : Sz k b) : SzQ k (Rat.divInt a b) := by
  unfold SzQ Sz at *
  have hg : 0 < Int.gcd b a := Int.gcd_pos_of_ne_zero_left a hb
  constructor
  · rw [Rat.num_divInt]
    refine Nat.lt_of_le_of_lt ?_ ha
    refine Nat.le_trans (Int.natAbs_ediv_le_natAbs ..) ?_
    rw [Int.natAbs_mul]
    have : b.sign.natAbs = 1 := Int.natAbs_sign_of_ne_zero hb
    rw [this]; omega
  · rw [Rat.den_divInt, if_neg hb, Int.natAbs_natCast]
    exact Nat.lt_of_le_of_lt (Nat.div_le_self _ _) hb'
def Cyc (n : Nat) (S : MF) (c : Rat) : Prop := ∃ i j, Ed n S c j i ∧ Reach (Ed n S c) i j
def hr (S T : MF) (i j : Nat) : Rat := if T i j < S j i then S j i else T i j
end B
namespace B
open PySem PySem.Spec PyProof.Rows L2 M

structure LeakOk (n : Nat) (S : MF) (share : Rat) (p : List Nat) : Prop where
  cyc : ∀ c, share ≤ c ↔ Cyc n S c
  nd : p.Nodup
  len : 2 ≤ p.length
  lt : ∀ x ∈ p, x < n
  st : Steps (Ed n S share) p
  ends : ∃ a b, p.head? = some a ∧ p.getLast? = some b ∧ Ed n S share b a
  sz : SzQ 100000 share
theorem steps_imp {W W' : Nat → Nat → Prop} (h : ∀ a b, W a b → W' a b) : ∀ {p : List Nat}, Steps W p → Steps W' p
  | [], _ => trivial
  | [_], _ => trivial
  | a :: b :: r, s => ⟨h a b s.1, steps_imp h (p := b :: r) s.2⟩
theorem reach_imp {W W' : Nat → Nat → Prop} (h : ∀ a b, W a b → W' a b) {a b : Nat} (r : Reach W a b) : Reach W' a b := by
  induction r with
  | refl => exact .refl
  | step _ w ih => exact .step ih (h _ _ w)
end B
namespace C
open PySem PySem.Spec PyProof.Rows L2 M N B

section
variable {a b c d e g : D} {p q r : Option D} {f f2 : T → T → Option T} {i j : Int} {ds es : List D} {x y : Bool}
@[simp] theorem c_xop : xop f (some a) (some b) = op2 f a b := (rfl)
@[simp] theorem c_xf1 {f : List T → Option T} : xf1 f (some a) = (f [.p a]).bind T.pure? := (rfl)
@[simp] theorem c_xf2 {f : List T → Option T} : xf2 f (some a) (some b) = (f [.p a, .p b]).bind T.pure? := (rfl)
@[simp] theorem c_ap1 {α R : Type} {f : α → Option R} {a : α} : ap1 f (some a) = f a := (rfl)
@[simp] theorem c_ap2 {α β R : Type} {f : α → β → Option R} {a : α} {b : β} : ap2 f (some a) (some b) = f a b := (rfl)
@[simp] theorem c_ap3 {α β γ R : Type} {f : α → β → γ → Option R} {a : α} {b : β} {c : γ} : ap3 f (some a) (some b) (some c) = f a b c := (rfl)
@[simp] theorem c_ap4 {α β γ δ R : Type} {f : α → β → γ → δ → Option R} {a : α} {b : β} {c : γ} {d : δ} : ap4 f (some a) (some b) (some c) (some d) = f a b c d := (rfl)
@[simp] theorem c_ap5 {α β γ δ ε R : Type} {f : α → β → γ → δ → ε → Option R} {a : α} {b : β} {c : γ} {d : δ} {e : ε} : ap5 f (some a) (some b) (some c) (some d) (some e) = f a b c d e := (rfl)
@[simp] theorem c_ap6 {α β γ δ ε ζ R : Type} {f : α → β → γ → δ → ε → ζ → Option R} {a : α} {b : β} {c : γ} {d : δ} {e : ε} {g : ζ} : ap6 f (some a) (some b) (some c) (some d) (some e) (some g) = f a b c d e g := (rfl)
@[simp] theorem c_xseq0 : xseq [] = some [] := (rfl)
@[simp] theorem c_xseq1 {l : List (Option D)} : xseq (some a :: l) = (xseq l).map fun as => a :: as := (rfl)
@[simp] theorem c_xtup {l : List (Option D)} : xtup l = (xseq l).map PyData.tuple := (rfl)
@[simp] theorem c_xlst {l : List (Option D)} : xlst l = (xseq l).map PyData.list := (rfl)
@[simp] theorem c_boolD : boolD? (.bool x) = some x := (rfl)
@[simp] theorem c_intD : intD? (.int i) = some i := (rfl)
@[simp] theorem c_seqD1 : seqD? (.list ds) = some ds := (rfl)
@[simp] theorem c_seqD2 : seqD? (.tuple ds) = some ds := (rfl)
@[simp] theorem c_xbool : xbool (some (.bool x)) = some x := (rfl)
@[simp] theorem c_xif {R : Type} {p q : Option R} : xif (some x) p q = if x then p else q := (rfl)
@[simp] theorem c_xif_t {R : Type} {p q : Option R} : xif (some true) p q = p := (rfl)
@[simp] theorem c_xif_f {R : Type} {p q : Option R} : xif (some false) p q = q := (rfl)
@[simp] theorem c_xand {p q : Option Bool} : xand p q = xif p q (some false) := (rfl)
@[simp] theorem c_xor {p q : Option Bool} : xor' p q = xif p (some true) q := (rfl)
@[simp] theorem c_xnot : xnot (some x) = some (!x) := (rfl)
@[simp] theorem c_xmand : xmand p q = xif (xbool p) q (some (.bool false)) := (rfl)
@[simp] theorem c_xmor : xmor p q = xif (xbool p) (some (.bool true)) q := (rfl)
@[simp] theorem c_xmnot : xmnot (some (.bool x)) = some (.bool (!x)) := (rfl)
@[simp] theorem c_xchain : xchain f f2 (some a) (some b) r = xif (xbool (op2 f a b)) (r.bind fun u => op2 f2 b u) (some (.bool false)) := (rfl)
@[simp] theorem c_xneg : xneg (some (.int i)) = some (.int (-i)) := (rfl)
@[simp] theorem c_xint : xint (some (.int i)) = some (some i) := (rfl)
@[simp] theorem c_xslice {lo hi : Option Int} : xslice (some d) (some lo) (some hi) = (sliceT (.p d) lo hi).bind T.pure? := (rfl)
@[simp] theorem c_xrev1 : xrev (some (.list ds)) = some (.list ds.reverse) := (rfl)
@[simp] theorem c_xrev2 : xrev (some (.tuple ds)) = some (.tuple ds.reverse) := (rfl)
@[simp] theorem c_xlistR : xlistR (some (.int j)) = if j ≤ 1000000 ∧ -1000000 ≤ j then some (.list (rangeD 0 j)) else none := (rfl)
@[simp] theorem c_xisi {n : String} : xisi n (some d) = some (.bool (isi (tyN d) n)) := (rfl)
@[simp] theorem c_un2 {R : Type} {k : D → D → Option R} : un2 (.tuple [a, b]) k = k a b := (rfl)
@[simp] theorem c_un3 {R : Type} {k : D → D → D → Option R} : un3 (.tuple [a, b, c]) k = k a b c := (rfl)
@[simp] theorem c_un4 {R : Type} {k : D → D → D → D → Option R} : un4 (.tuple [a, b, c, d]) k = k a b c d := (rfl)
@[simp] theorem c_iseq1 : iseq (some (.list ds)) = some ds := (rfl)
@[simp] theorem c_iseq2 : iseq (some (.tuple ds)) = some ds := (rfl)
@[simp] theorem c_irng1 : irng1 (some (.int j)) = if smallI j then some (rangeD 0 j) else none := (rfl)
@[simp] theorem c_irng2 : irng2 (some (.int i)) (some (.int j)) = if smallI i ∧ smallI j then some (rangeD i j) else none := (rfl)
@[simp] theorem c_izip1 : izip (some (.list ds)) (some (.list es)) = some (zipD ds es) := (rfl)
@[simp] theorem c_izip2 : izip (some (.tuple ds)) (some (.tuple es)) = some (zipD ds es) := (rfl)
@[simp] theorem c_ienum : ienum (some (.list ds)) = some (enumD 0 ds) := (rfl)
@[simp] theorem c_asL : asL (some (.list ds)) = some ds := (rfl)
@[simp] theorem c_aft1 {S R ρ : Type} {s : S} {kr : ρ → R} {k : S → Option R} : aft (some (.nx s)) kr k = k s := (rfl)
@[simp] theorem c_aft2 {S R ρ : Type} {d : ρ} {kr : ρ → R} {k : S → Option R} : aft (some (.rt d)) kr k = some (kr d) := (rfl)
@[simp] theorem c_flatO : flatO (some d) = if flatD d then some d else none := (rfl)
@[simp] theorem c_add : op2 addT (.int i) (.int j) = some (.int (i + j)) := (rfl)
@[simp] theorem c_sub : op2 subT (.int i) (.int j) = some (.int (i - j)) := (rfl)
@[simp] theorem c_mul : op2 mulT (.int i) (.int j) = if mulOk i j then some (.int (i * j)) else none := by
  simp only [op2, ev_mul]; split <;> rfl
@[simp] theorem c_mod : op2 modT (.int i) (.int j) = if j = 0 then none else some (.int (i.fmod j)) := by
  simp only [op2, ev_mod]; split <;> rfl
@[simp] theorem c_fdiv : op2 fdivT (.int i) (.int j) = if divOk j then some (.int (i.fdiv j)) else none := by
  simp only [op2, ev_fdiv]; split <;> rfl
@[simp] theorem c_pow : op2 powT (.int i) (.int j) = if 0 ≤ j ∧ j ≤ 1000000 ∧ i.natAbs < 2 ^ 64 then some (.int (i ^ j.toNat)) else none := by
  simp only [op2, ev_pow]; split <;> rfl
@[simp] theorem c_lt : op2 ltT (.int i) (.int j) = some (.bool (decide (i < j))) := (rfl)
@[simp] theorem c_le : op2 leT (.int i) (.int j) = some (.bool (decide (i ≤ j))) := (rfl)
@[simp] theorem c_gt : op2 gtT (.int i) (.int j) = some (.bool (decide (j < i))) := (rfl)
@[simp] theorem c_ge : op2 geT (.int i) (.int j) = some (.bool (decide (j ≤ i))) := (rfl)
@[simp] theorem c_eqi : op2 M.eqT (.int i) (.int j) = some (.bool (decide (i = j))) := by simp [op2]
@[simp] theorem c_nei : op2 M.neT (.int i) (.int j) = some (.bool (!decide (i = j))) := by simp [op2]
@[simp] theorem c_eqb : op2 M.eqT (.bool x) (.bool y) = some (.bool (x == y)) := by simp [op2]
@[simp] theorem c_neb : op2 M.neT (.bool x) (.bool y) = some (.bool (!(x == y))) := by simp [op2]
@[simp] theorem c_ixl : op2 idxT (.list ds) (.int i) = atI ds i := by
  simp only [op2, ev_ixl]; cases atI ds i <;> rfl
@[simp] theorem c_ixt : op2 idxT (.tuple ds) (.int i) = atI ds i := by
  simp only [op2, ev_ixt]; cases atI ds i <;> rfl
@[simp] theorem c_addl : op2 addT (.list ds) (.list es) = if ds.length + es.length ≤ LIM then some (.list (ds ++ es)) else none := by
  simp only [op2, ev_addl]; split <;> rfl
@[simp] theorem c_addt : op2 addT (.tuple ds) (.tuple es) = if ds.length + es.length ≤ LIM then some (.tuple (ds ++ es)) else none := by
  simp only [op2, ev_addt]; split <;> rfl
@[simp] theorem c_isn0 : op2 isnT .none .none = some (.bool true) := (rfl)
@[simp] theorem c_isnt : op2 isnT (.tuple ds) .none = some (.bool false) := (rfl)
@[simp] theorem c_isnl : op2 isnT (.list ds) .none = some (.bool false) := (rfl)
@[simp] theorem c_isni : op2 isnT (.int i) .none = some (.bool false) := (rfl)
@[simp] theorem c_notn0 : op2 notnT .none .none = some (.bool false) := (rfl)
@[simp] theorem c_notnt : op2 notnT (.tuple ds) .none = some (.bool true) := (rfl)
@[simp] theorem c_notnl : op2 notnT (.list ds) .none = some (.bool true) := (rfl)
@[simp] theorem c_notni : op2 notnT (.int i) .none = some (.bool true) := (rfl)
end
theorem mapP_of {α : Type} {h : D → Option D} (en : α → D) (f : α → D) : ∀ (xs : List α), (∀ x ∈ xs, h (en x) = some (f x)) → mapP h (xs.map en) = some (xs.map f)
  | [], _ => rfl
  | x :: r, hx => by
    simp only [List.map_cons, mapP, hx x List.mem_cons_self, Option.bind_some, mapP_of en f r (fun y hy => hx y (List.mem_cons_of_mem _ hy)), Option.map_some]
theorem xmap_of {α : Type} {h : D → Option D} (en : α → D) (f : α → D) (xs : List α) (hl : xs.length ≤ LIM) (hx : ∀ x ∈ xs, h (en x) = some (f x)) : xmap h (some (xs.map en)) = some (.list (xs.map f)) := by
  simp only [xmap, lim, Option.bind_some, mapP_of en f xs hx, List.length_map, hl, if_true, Option.map_some]
theorem lcP_of {α : Type} {h : D → Option (Option D)} (en : α → D) (p : α → Bool) (f : α → D) : ∀ (xs : List α), (∀ x ∈ xs, h (en x) = some (if p x then some (f x) else none)) → lcP h (xs.map en) = some ((xs.filter p).map f)
  | [], _ => rfl
  | x :: r, hx => by
    simp only [List.map_cons, lcP, hx x List.mem_cons_self, Option.bind_some, lcP_of en p f r (fun y hy => hx y (List.mem_cons_of_mem _ hy)), Option.map_some, List.filter_cons]
    cases p x <;> rfl
theorem xlc_of {α : Type} {h : D → Option (Option D)} (en : α → D) (p : α → Bool) (f : α → D) (xs : List α) (hl : xs.length ≤ LIM) (hx : ∀ x ∈ xs, h (en x) = some (if p x then some (f x) else none)) : xlc h (some (xs.map en)) = some (.list ((xs.filter p).map f)) := by
  have : (xs.filter p).length ≤ LIM := Nat.le_trans (List.length_filter_le _ _) hl
  simp only [xlc, lim, Option.bind_some, lcP_of en p f xs hx, List.length_map, this, if_true, Option.map_some]
theorem rangeD_map (n : Nat) : rangeD 0 (n : Int) = (List.range n).map fun (k : Nat) => PyData.int (k : Int) := by simp [rangeD]
theorem xmap_range {h : D → Option D} (n : Nat) (f : Nat → D) (hl : n ≤ LIM) (hx : ∀ i, i < n → h (.int (i : Int)) = some (f i)) : xmap h (some (rangeD 0 (n : Int))) = some (.list ((List.range n).map f)) := by
  rw [rangeD_map]
  exact xmap_of _ f (List.range n) (by simpa using hl) fun i hi => hx i (List.mem_range.mp hi)
theorem xlc_range {h : D → Option (Option D)} (n : Nat) (p : Nat → Bool) (f : Nat → D) (hl : n ≤ LIM) (hx : ∀ i, i < n → h (.int (i : Int)) = some (if p i then some (f i) else none)) : xlc h (some (rangeD 0 (n : Int))) = some (.list (((List.range n).filter p).map f)) := by
  rw [rangeD_map]
  exact xlc_of _ p f (List.range n) (by simpa using hl) fun i hi => hx i (List.mem_range.mp hi)
theorem fold_inv {S : Type} {step : S → D → Option S} (I : Nat → S → Prop) : ∀ (ds : List D) (s : S) (k : Nat), I k s → (∀ i d s, ds[i]? = some d → I (k + i) s → ∃ s', step s d = some s' ∧ I (k + i + 1) s') → ∃ s', fold step ds s = some s' ∧ I (k + ds.length) s'
  | [], s, k, h, _ => ⟨s, rfl, h⟩
  | d :: r, s, k, h, hs => by
    obtain ⟨s1, h1, h2⟩ := hs 0 d s rfl h
    obtain ⟨s', h3, h4⟩ := fold_inv I r s1 (k + 1) h2 (fun i d' s' hd hp => by
      have := hs (i + 1) d' s' (by simpa using hd) (by rw [show k + (i + 1) = k + 1 + i by omega]; exact hp)
      rw [show k + (i + 1) + 1 = k + 1 + i + 1 by omega] at this
      exact this)
    exact ⟨s', by simp only [fold, h1, Option.bind_some, h3], by rw [List.length_cons, show k + (r.length + 1) = k + 1 + r.length by omega]; exact h4⟩
theorem fold_range {S : Type} {step : S → D → Option S} (I : Nat → S → Prop) (n : Nat) (s : S) (h0 : I 0 s) (hs : ∀ i s, i < n → I i s → ∃ s', step s (.int (i : Int)) = some s' ∧ I (i + 1) s') : ∃ s', fold step (rangeD 0 (n : Int)) s = some s' ∧ I n s' := by
  have := fold_inv (step := step) I (rangeD 0 (n : Int)) s 0 h0 (fun i d s hd hi => by
    obtain ⟨hlt, rfl⟩ := rng_at hd
    rw [Nat.zero_add] at hi ⊢
    exact hs i s hlt hi)
  rwa [rng_len, Nat.zero_add] at this
theorem fold_map {α S : Type} {step : S → D → Option S} (en : α → D) (I : Nat → S → Prop) (xs : List α) (s : S) (h0 : I 0 s) (hs : ∀ i (h : i < xs.length) s, I i s → ∃ s', step s (en xs[i]) = some s' ∧ I (i + 1) s') : ∃ s', fold step (xs.map en) s = some s' ∧ I xs.length s' := by
  have := fold_inv (step := step) I (xs.map en) s 0 h0 (fun i d s hd hi => by
    rw [Nat.zero_add] at hi ⊢
    simp only [List.getElem?_map, Option.map_eq_some_iff] at hd
    obtain ⟨x, hx, rfl⟩ := hd
    obtain ⟨hlt, hx⟩ := List.getElem?_eq_some_iff.mp hx
    rw [← hx]
    exact hs i hlt s hi)
  rwa [List.length_map, Nat.zero_add] at this
/-- a loop with an early return: run to the end, or stopped at the first item that returns -/
theorem foldC_run {S ρ : Type} {step : S → D → Option (Ct S ρ)} (I : Nat → S → Prop) (W : ρ → Prop) : ∀ (ds : List D) (s : S) (k : Nat), I k s → (∀ i d s, ds[i]? = some d → I (k + i) s → (∃ s', step s d = some (.nx s') ∧ I (k + i + 1) s') ∨ ∃ r, step s d = some (.rt r) ∧ W r) → (∃ s', foldC step ds s = some (.nx s') ∧ I (k + ds.length) s') ∨ ∃ r, foldC step ds s = some (.rt r) ∧ W r
  | [], s, k, h, _ => .inl ⟨s, rfl, h⟩
  | d :: r, s, k, h, hs => by
    rcases hs 0 d s rfl h with ⟨s1, h1, h2⟩ | ⟨x, h1, h2⟩
    · rcases foldC_run I W r s1 (k + 1) h2 (fun i d' s' hd hp => by
        have := hs (i + 1) d' s' (by simpa using hd) (by rw [show k + (i + 1) = k + 1 + i by omega]; exact hp)
        rw [show k + (i + 1) + 1 = k + 1 + i + 1 by omega] at this
        exact this) with ⟨s', h3, h4⟩ | ⟨x, h3, h4⟩
      · exact .inl ⟨s', by simp only [foldC, h1, Option.bind_some, h3], by rw [List.length_cons, show k + (r.length + 1) = k + 1 + r.length by omega]; exact h4⟩
      · exact .inr ⟨x, by simp only [foldC, h1, Option.bind_some, h3], h4⟩
    · exact .inr ⟨x, by simp only [foldC, h1, Option.bind_some], h2⟩
theorem foldC_range {S ρ : Type} {step : S → D → Option (Ct S ρ)} (I : Nat → S → Prop) (W : ρ → Prop) (n : Nat) (s : S) (h0 : I 0 s) (hs : ∀ i s, i < n → I i s → (∃ s', step s (.int (i : Int)) = some (.nx s') ∧ I (i + 1) s') ∨ ∃ r, step s (.int (i : Int)) = some (.rt r) ∧ W r) : (∃ s', foldC step (rangeD 0 (n : Int)) s = some (.nx s') ∧ I n s') ∨ ∃ r, foldC step (rangeD 0 (n : Int)) s = some (.rt r) ∧ W r := by
  have := foldC_run (step := step) I W (rangeD 0 (n : Int)) s 0 h0 (fun i d s hd hi => by
    obtain ⟨hlt, rfl⟩ := rng_at hd
    rw [Nat.zero_add] at hi ⊢
    exact hs i s hlt hi)
  rwa [rng_len, Nat.zero_add] at this
/-- old lemmas -/
theorem qc_of {fn : List T → Option T} {ts : List T} {d : D} (h : callT fn ts = some (.p d)) : qc fn ts = some d := by simp [qc, h]
end C
namespace C
open PySem PySem.Spec PyProof.Rows L2 M N B

/-- no truths, no dicts; at most n deep -/
def Pln : Nat → D → Prop
  | _, .int _ => True
  | _, .none => True
  | _, .str x => PyData.strOk x = true
  | n + 1, .tuple ds => ∀ d ∈ ds, Pln n d
  | n + 1, .list ds => ∀ d ∈ ds, Pln n d
  | _, _ => False
theorem Pln.mono : ∀ {n m : Nat} {d : D}, Pln n d → n ≤ m → Pln m d := by
  intro n
  induction n with
  | zero => intro m d h _; cases d <;> cases m <;> simp_all [Pln]
  | succ n ih =>
    intro m d h hm
    cases m with
    | zero => omega
    | succ m =>
      cases d with
      | tuple ds => exact fun x hx => ih (h x hx) (by omega)
      | list ds => exact fun x hx => ih (h x hx) (by omega)
      | _ => simp_all [Pln]
theorem lay_all {n : Nat} (ih : ∀ d, Pln n d → d.canLay0 = true ∧ d.depth ≤ n) : ∀ ds : List D, (∀ d ∈ ds, Pln n d) → PyData.canLayAll0 ds = true ∧ PyData.depthAll ds ≤ n
  | [], _ => by simp [PyData.canLayAll0, PyData.depthAll]
  | d :: r, h => by
    have h1 := ih d (h d List.mem_cons_self)
    have h2 := lay_all ih r fun x hx => h x (List.mem_cons_of_mem _ hx)
    simp only [PyData.canLayAll0, PyData.depthAll, h1.1, h2.1, Bool.and_self, true_and]
    omega
theorem Pln.lay : ∀ {n : Nat} (d : D), Pln n d → d.canLay0 = true ∧ d.depth ≤ n := by
  intro n
  induction n with
  | zero => intro d h; cases d <;> simp_all [Pln, PyData.canLay0, PyData.depth]
  | succ n ih =>
    intro d h
    cases d with
    | tuple ds => have := lay_all ih ds h; simp only [PyData.canLay0, PyData.depth]; exact ⟨this.1, by omega⟩
    | list ds => have := lay_all ih ds h; simp only [PyData.canLay0, PyData.depth]; exact ⟨this.1, by omega⟩
    | _ => simp_all [Pln, PyData.canLay0, PyData.depth]
theorem Pln.shaped {n : Nat} {d : D} (h : Pln n d) (hn : n ≤ 64) : SeqAt.shaped d = true := by
  have := h.lay
  unfold SeqAt.shaped
  simp only [Bool.and_eq_true, decide_eq_true_eq]
  exact ⟨this.1, by omega⟩
theorem eqv_all {n : Nat} (ih : ∀ d e, Pln n d → Pln n e → (PyData.eqv d e = true ↔ d = e)) : ∀ ds es : List D, (∀ d ∈ ds, Pln n d) → (∀ d ∈ es, Pln n d) → (PyData.eqvAll ds es = true ↔ ds = es)
  | [], [], _, _ => by simp [PyData.eqvAll]
  | [], _ :: _, _, _ => by simp [PyData.eqvAll]
  | _ :: _, [], _, _ => by simp [PyData.eqvAll]
  | d :: r, e :: t, h, h' => by
    have h1 := ih d e (h d List.mem_cons_self) (h' e List.mem_cons_self)
    have h2 := eqv_all ih r t (fun x hx => h x (List.mem_cons_of_mem _ hx)) fun x hx => h' x (List.mem_cons_of_mem _ hx)
    simp only [PyData.eqvAll, Bool.and_eq_true, h1, h2, List.cons.injEq]
theorem eqv_iff : ∀ {n : Nat} (d e : D), Pln n d → Pln n e → (PyData.eqv d e = true ↔ d = e) := by
  intro n
  induction n with
  | zero => intro d e h h'; cases d <;> cases e <;> simp_all [Pln, PyData.eqv]
  | succ n ih =>
    intro d e h h'
    cases d with
    | tuple ds =>
      cases e with
      | tuple es => simp only [PyData.eqv, PyData.tuple.injEq]; exact eqv_all ih ds es h h'
      | _ => simp_all [Pln, PyData.eqv]
    | list ds =>
      cases e with
      | list es => simp only [PyData.eqv, PyData.list.injEq]; exact eqv_all ih ds es h h'
      | _ => simp_all [Pln, PyData.eqv]
    | _ => cases e <;> simp_all [Pln, PyData.eqv]
section
variable {n : Nat} {d e : D}
theorem op_eq (p : Pln n d) (q : Pln n e) (hn : n ≤ 64 := by decide) : op2 M.eqT d e = some (.bool (PyData.eqv d e)) := by
  simp [op2, M.eqT, p.shaped hn, q.shaped hn]
theorem op_ne (p : Pln n d) (q : Pln n e) (hn : n ≤ 64 := by decide) : op2 M.neT d e = some (.bool (!PyData.eqv d e)) := by
  simp [op2, M.neT, p.shaped hn, q.shaped hn]
theorem c_eq {P : Prop} [Decidable P] (p : Pln n d) (q : Pln n e) (h : d = e ↔ P) (hn : n ≤ 64 := by decide) : op2 M.eqT d e = some (.bool (decide P)) := by
  rw [op_eq p q hn]
  congr 2
  have := eqv_iff d e p q
  rw [Bool.eq_iff_iff, this, decide_eq_true_eq, h]
theorem c_ne {P : Prop} [Decidable P] (p : Pln n d) (q : Pln n e) (h : d = e ↔ P) (hn : n ≤ 64 := by decide) : op2 M.neT d e = some (.bool (!decide P)) := by
  rw [op_ne p q hn]
  congr 2
  have := eqv_iff d e p q
  rw [Bool.eq_iff_iff, Bool.not_eq_true', Bool.not_eq_true', Bool.eq_false_iff, Bool.eq_false_iff, ne_eq, ne_eq, this, decide_eq_true_eq, h]
theorem c_ne_self (p : Pln n d) (hn : n ≤ 64 := by decide) : op2 M.neT d d = some (.bool false) := by rw [c_ne (P := True) p p (by simp) hn]; rfl
end
theorem pln_ints (xs : List Int) : ∀ d ∈ enI xs, Pln 0 d := by
  intro d hd
  unfold enI at hd
  obtain ⟨x, _, rfl⟩ := List.mem_map.mp hd
  trivial
theorem pln_Q (q : Rat) : Pln 1 (enQ q) := by
  intro d hd
  simp at hd
  rcases hd with rfl | rfl <;> trivial
theorem enI_inj {xs ys : List Int} (h : enI xs = enI ys) : xs = ys := by
  unfold enI at h
  exact (List.map_inj_right (by intro a b e; cases e; rfl)).mp h
theorem enQ_inj {p q : Rat} (h : enQ p = enQ q) : p = q := by
  unfold enQ at h
  simp at h
  exact Rat.ext h.1 (by exact_mod_cast h.2)
theorem eq_Q (p q : Rat) : op2 M.eqT (enQ p) (enQ q) = some (.bool (decide (p = q))) := c_eq (pln_Q p) (pln_Q q) ⟨enQ_inj, fun h => by rw [h]⟩
theorem zero_Q : PyData.tuple [.int 0, .int 1] = enQ 0 := rfl
theorem p_cell (ns : List Int) (k : Int) (hk : 0 ≤ k) : ∃ c, P.law_cell_at ns (.int k) = some (.int c) := by
  obtain ⟨c, h⟩ := c_cell_at ns k hk
  exact ⟨c, qc_of h⟩
theorem p_draws (cell many base : Int) (hm : 0 ≤ many := by decide) (hm2 : many ≤ 1000 := by decide) (hb : 0 < base := by decide) (hb2 : base < 2 ^ 60 := by decide) :
    ∃ xs : List Int, P.law_draws (.int cell) (.int many) (.int base) = some (.list (enI xs)) ∧ xs.length = many.toNat ∧ ∀ x ∈ xs, 0 ≤ x ∧ x < base := by
  obtain ⟨xs, h, h2⟩ := c_draws cell many base hm hm2 hb hb2
  exact ⟨xs, qc_of h, h2⟩
/-- an item of a list of ints -/
theorem at_ex {xs : List Int} {i : Int} (h0 : 0 ≤ i) (h1 : i < xs.length) : ∃ x ∈ xs, atI (enI xs) i = some (.int x) := atI_ex h0 h1
theorem small_of {j : Int} (h1 : 0 ≤ j) (h2 : j ≤ 1000000) : smallI j := ⟨by omega, h2⟩
theorem lim_of {n : Nat} (h : n ≤ 1000000) : n ≤ LIM := h
end C
namespace C
open PySem PySem.Spec PyProof.Rows L2 M N B

theorem dot_nn : ∀ {ps as : List Int}, (∀ p ∈ ps, 0 ≤ p) → (∀ a ∈ as, 0 ≤ a) → 0 ≤ dot ps as
  | [], _, _, _ => by simp [dot]
  | _ :: _, [], _, _ => by simp [dot]
  | p :: ps, a :: as, h1, h2 => by
    have := dot_nn (fun x hx => h1 x (List.mem_cons_of_mem _ hx)) (fun x hx => h2 x (List.mem_cons_of_mem _ hx)) (ps := ps) (as := as)
    have := Int.mul_nonneg (h1 p List.mem_cons_self) (h2 a List.mem_cons_self)
    simp only [dot]; omega
theorem dot_pos : ∀ {ps as : List Int}, ps.length = as.length → (∀ p ∈ ps, 1 ≤ p) → (∀ a ∈ as, 0 ≤ a) → (∃ a ∈ as, 0 < a) → 0 < dot ps as
  | [], [], _, _, _, h => by simp at h
  | [], _ :: _, h, _, _, _ => by simp at h
  | _ :: _, [], h, _, _, _ => by simp at h
  | p :: ps, a :: as, hl, h1, h2, h3 => by
    have hp := h1 p List.mem_cons_self
    have ha := h2 a List.mem_cons_self
    have r0 := dot_nn (ps := ps) (as := as) (fun x hx => by have := h1 x (List.mem_cons_of_mem _ hx); omega) (fun x hx => h2 x (List.mem_cons_of_mem _ hx))
    simp only [dot]
    by_cases h : 0 < a
    · have := Int.mul_pos (show 0 < p by omega) h; omega
    · have h0 : a = 0 := by omega
      subst h0
      have := dot_pos (ps := ps) (as := as) (by simpa using hl) (fun x hx => h1 x (List.mem_cons_of_mem _ hx)) (fun x hx => h2 x (List.mem_cons_of_mem _ hx)) (by
        obtain ⟨x, hx, hx0⟩ := h3
        rcases List.mem_cons.mp hx with rfl | hx
        · omega
        · exact ⟨x, hx, hx0⟩)
      omega
theorem dot_le {M N : Int} (hM : 0 ≤ M) (hN : 0 ≤ N) : ∀ {ps as : List Int}, (∀ p ∈ ps, 0 ≤ p ∧ p ≤ M) → (∀ a ∈ as, 0 ≤ a ∧ a ≤ N) → dot ps as ≤ ps.length * (M * N)
  | [], _, _, _ => by simp [dot]
  | _ :: _, [], _, _ => by simp only [dot]; exact Int.mul_nonneg (by simp; omega) (Int.mul_nonneg hM hN)
  | p :: ps, a :: as, h1, h2 => by
    have := dot_le hM hN (fun x hx => h1 x (List.mem_cons_of_mem _ hx)) (fun x hx => h2 x (List.mem_cons_of_mem _ hx)) (ps := ps) (as := as)
    have a1 := h1 p List.mem_cons_self
    have a2 := h2 a List.mem_cons_self
    have : p * a ≤ M * N := Int.mul_le_mul a1.2 a2.2 a2.1 hM
    simp only [dot, List.length_cons, Int.natCast_add, Int.add_mul]
    omega
/-- what costs of a valid book come to -/
theorem _root_.B.ValidBook.cost {n : Nat} {bk : List Buy} (v : ValidBook n bk) {b c : Buy} (hb : b ∈ bk) (hc : c ∈ bk) : 0 ≤ dot b.1 c.2 ∧ dot b.1 c.2 ≤ 6000000000000 := by
  have gb := v.all b hb
  have gc := v.all c hc
  refine ⟨dot_nn (fun p hp => by have := gb.pr p hp; omega) fun a ha => (gc.am a ha).1, ?_⟩
  have := dot_le (M := 1000000) (N := 1000000) (by decide) (by decide) (ps := b.1) (as := c.2) (fun p hp => by have := gb.pr p hp; omega) gc.am
  have h6 := v.n6
  rw [gb.lp] at this
  have : (n : Int) * (1000000 * 1000000) ≤ 6 * (1000000 * 1000000) := by omega
  omega
theorem _root_.B.ValidBook.own {n : Nat} {bk : List Buy} (v : ValidBook n bk) {b : Buy} (hb : b ∈ bk) : 0 < dot b.1 b.2 := by
  have gb := v.all b hb
  exact dot_pos (by rw [gb.lp, gb.la]) (fun p hp => (gb.pr p hp).1) (fun a ha => (gb.am a ha).1) gb.ps
theorem cM_eq {bk : List Buy} {i j : Nat} (hi : i < bk.length) (hj : j < bk.length) : cM bk i j = dot bk[i].1 bk[j].2 := by
  unfold cM
  rw [getD_lt hi, getD_lt hj]
theorem _root_.B.ValidBook.priced {n : Nat} {bk : List Buy} (v : ValidBook n bk) (h : bk.length ≤ 1000) : Priced bk := ⟨h, fun b hb => by
  have gb := v.all b hb
  have := v.n6
  exact ⟨by rw [gb.lp]; omega, fun p hp => by have := gb.pr p hp; omega⟩⟩
theorem reach_map {W W' : Nat → Nat → Prop} (f : Nat → Nat) (h : ∀ a b, W a b → W' (f a) (f b)) {a b : Nat} (r : Reach W a b) : Reach W' (f a) (f b) := by
  induction r with
  | refl => exact .refl
  | step _ w ih => exact .step ih (h _ _ w)
end C
namespace C
open PySem PySem.Spec PyProof.Rows L2 M N B

end C
namespace C
open PySem PySem.Spec PyProof.Rows L2 M N B

theorem get_steps {W : Nat → Nat → Prop} : ∀ {p : List Nat}, Steps W p → ∀ k, k + 1 < p.length → W (p.getD k 0) (p.getD (k + 1) 0)
  | [], _, k, h => by simp at h
  | [_], _, k, h => by simp at h
  | a :: b :: r, s, 0, _ => by simpa using s.1
  | a :: b :: r, s, k + 1, h => by simpa using get_steps (p := b :: r) s.2 k (by simp at h ⊢; omega)
theorem steps_reach {W : Nat → Nat → Prop} : ∀ {p : List Nat} {a b : Nat}, Steps W p → p.head? = some a → p.getLast? = some b → Reach W a b
  | [], _, _, _, h, _ => by simp at h
  | [x], a, b, _, h1, h2 => by simp at h1 h2; subst h1 h2; exact .refl
  | x :: y :: r, a, b, s, h1, h2 => by
    simp at h1
    subst h1
    have := steps_reach (p := y :: r) s.2 rfl (by simpa using h2)
    exact reach_trans (.step .refl s.1) this
end C
namespace C
open PySem PySem.Spec PyProof.Rows L2 M N B

section
variable {bk bk' : List Buy} {b : Buy} {k : Nat} {xs : List Int}
@[simp] theorem B_0 : op2 idxT (enB b) (.int 0) = some (.tuple (enI b.1)) := rfl
@[simp] theorem B_1 : op2 idxT (enB b) (.int 1) = some (.tuple (enI b.2)) := rfl
@[simp] theorem len_bk : lenT [.p (enBk bk)] = some (.p (.int bk.length)) := by unfold enBk; simp
@[simp] theorem slice_bk {lo hi : Option Int} : sliceT (.p (enBk bk)) lo hi = some (.p (enBk (cutL bk lo hi))) := by
  unfold enBk; simp [cutL_enB]
@[simp] theorem un_B {R : Type} {f : D → D → Option R} : un2 (enB b) f = f (.tuple (enI b.1)) (.tuple (enI b.2)) := rfl
@[simp] theorem iseq_bk : iseq (some (enBk bk)) = some (bk.map enB) := rfl
@[simp] theorem rev_bk : xrev (some (enBk bk)) = some (enBk bk.reverse) := by unfold enBk; simp
@[simp] theorem rev_enI : (enI xs).reverse = enI xs.reverse := by simp [enI]
theorem cut_from {α : Type} (xs : List α) (k : Nat) (h : k ≤ xs.length) : cutL xs (some (k : Int)) none = xs.drop k := by
  simp only [cutL, HT.sIx]
  rw [if_neg (by omega), show min (k : Int).toNat xs.length = k by omega]
  exact List.take_of_length_le (by simp)
theorem cut_upto {α : Type} (xs : List α) (k : Nat) : cutL xs none (some (k : Int)) = xs.take k := by
  rw [cut_to xs k (by omega)]; simp
@[simp] theorem tup_enI : tupleT [.p (.list (enI xs))] = some (.p (.tuple (enI xs))) := rfl
end
theorem _root_.B.ValidBook.sub {n : Nat} {bk bk' : List Buy} (v : ValidBook n bk) (h : ∀ b ∈ bk', b ∈ bk) (h1 : 1 ≤ bk'.length) : ValidBook n bk' := ⟨v.n1, v.n6, h1, fun b hb => v.all b (h b hb)⟩
theorem _root_.B.ValidBook.set {n : Nat} {bk : List Buy} (v : ValidBook n bk) {c : Buy} (g : Good n c) (k : Nat) : ValidBook n (bk.set k c) :=
  ⟨v.n1, v.n6, by simpa using v.ne, fun b hb => by
    rcases List.mem_or_eq_of_mem_set hb with z | z
    · exact v.all b z
    · rw [z]; exact g⟩
end C
set_option exponentiation.threshold 100
namespace C
open PySem PySem.Spec PyProof.Rows L2 M N B

abbrev CF := Nat → Nat → Int
abbrev WF := Nat → Rat
/-- costs of at most 13 buyings -/
structure Cst (n : Nat) (c : CF) : Prop where
  n1 : 1 ≤ n
  n13 : n ≤ 13
  lo : ∀ i j, i < n → j < n → 1 ≤ c i j
  hi : ∀ i j, i < n → j < n → c i j ≤ 6000000000000
def rowC (n : Nat) (c : CF) (i : Nat) : List D := (List.range n).map fun j => .int (c i j)
def enCm (n : Nat) (c : CF) : D := .list ((List.range n).map fun i => .list (rowC n c i))
theorem enC_eq (bk : List Buy) : enC bk = enCm bk.length (cM bk) := by
  unfold enC enCm rowC cRow enI
  simp only [List.map_map]
  rfl
theorem _root_.B.ValidBook.cst {n : Nat} {bk : List Buy} (v : ValidBook n bk) (h : bk.length ≤ 13) : Cst bk.length (cM bk) := by
  refine ⟨v.ne, h, fun i j hi hj => ?_, fun i j hi hj => ?_⟩
  · rw [cM_eq hi hj]
    have gi := v.all _ (List.getElem_mem hi)
    have gj := v.all _ (List.getElem_mem hj)
    have := dot_pos (ps := bk[i].1) (as := bk[j].2) (by rw [gi.lp, gj.la]) (fun p hp => (gi.pr p hp).1) (fun a ha => (gj.am a ha).1) gj.ps
    omega
  · rw [cM_eq hi hj]; exact (v.cost (List.getElem_mem hi) (List.getElem_mem hj)).2
theorem p_costs {n : Nat} {bk : List Buy} (v : ValidBook n bk) (h : bk.length ≤ 1000) : P.costs_of (enBk bk) = some (enCm bk.length (cM bk)) := by
  have := costs_of bk (v.priced h)
  rw [enM_costs, enC_eq] at this
  exact qc_of this
section
variable {n : Nat} {c : CF} {i j : Nat} {w : WF}
@[simp] theorem len_Cm : lenT [.p (enCm n c)] = some (.p (.int n)) := by unfold enCm; simp
theorem ix_Cm (h : i < n) : op2 idxT (enCm n c) (.int (i : Int)) = some (.list (rowC n c i)) := by
  unfold enCm; rw [c_ixl, at_range h]
theorem ix_rowC (h : j < n) : op2 idxT (.list (rowC n c i)) (.int (j : Int)) = some (.int (c i j)) := by
  unfold rowC; rw [c_ixl, at_range h]
def wl (n : Nat) (w : WF) : List D := (List.range n).map fun i => enQ (w i)
theorem ix_wl (h : i < n) : op2 idxT (.list (wl n w)) (.int (i : Int)) = some (enQ (w i)) := by
  unfold wl; rw [c_ixl, at_range h]
def updW (w : WF) (j : Nat) (q : Rat) : WF := fun i => if i = j then q else w i
theorem updW_same {q : Rat} : updW w j q j = q := by simp [updW]
theorem updW_ne {q : Rat} (h : i ≠ j) : updW w j q i = w i := by simp [updW, h]
theorem set_wl {q : Rat} (h : j < n) : setL (wl n w) (.int (j : Int)) (enQ q) = some (wl n (updW w j q)) := by
  unfold setL wl
  simp only [c_intD, Option.bind_some]
  rw [ix_range h, Option.map_some, range_set]
  congr 1
  refine List.map_congr_left fun i _ => ?_
  unfold updW; split <;> rfl
end
theorem q_eq (q : Rat) : q = Rat.divInt q.num q.den := by rw [Rat.divInt_ofNat, Rat.mkRat_self]
theorem szq_add {k l : Nat} {p q : Rat} (h : SzQ k p) (h' : SzQ l q) : SzQ (k + l + 1) (p + q) := by
  have e : p + q = Rat.divInt (p.num * q.den + q.num * p.den) (p.den * q.den) := by
    conv => lhs; rw [q_eq p, q_eq q]
    rw [Rat.divInt_add_divInt _ _ (den_ne p) (den_ne q)]
  rw [e]
  refine szq_divInt (Int.mul_ne_zero (den_ne p) (den_ne q)) ?_ ((h.2.mul h'.2).mono (by omega))
  refine Sz.add (k := k + l) (h.1.mul h'.2) ?_
  have := h'.1.mul h.2
  rwa [Nat.add_comm] at this
theorem szq_neg {k : Nat} {p : Rat} (h : SzQ k p) : SzQ k (-p) := by
  refine ⟨?_, ?_⟩
  · rw [Rat.neg_num]; have := h.1; unfold Sz at this ⊢; simpa using this
  · rw [Rat.neg_den]; exact h.2
theorem szq_sub {k l : Nat} {p q : Rat} (h : SzQ k p) (h' : SzQ l q) : SzQ (k + l + 1) (p - q) := by
  rw [Rat.sub_eq_add_neg]; exact szq_add h (szq_neg h')
theorem szq_ofInt {k : Nat} {a : Int} (h : Sz k a) (hk : 1 ≤ k) : SzQ k (a : Rat) := by
  rw [← divInt_1 a]
  exact szq_divInt (by decide) h (by unfold Sz; exact Nat.one_lt_two_pow (by omega))
theorem fr_div {a b : Int} (hb : b ≠ 0) (sb : Sz 9000 b) : P.fraction (.int a) (.int b) = some (enQ (Rat.divInt a b)) := qc_of (fraction a b hb sb)
theorem p_isless {p q : Rat} (hp : SzQ 100000 p) (hq : SzQ 100000 q) : P.is_less (enQ p) (enQ q) = some (.bool (decide (p < q))) := qc_of (is_less p q hp hq)
theorem p_plus {p q : Rat} (hp : SzQ 4400 p) (hq : SzQ 4400 q) : P.plus (enQ p) (enQ q) = some (enQ (p + q)) := qc_of (plus p q hp hq)
theorem p_minus {p q : Rat} (hp : SzQ 4400 p) (hq : SzQ 4400 q) : P.minus (enQ p) (enQ q) = some (enQ (p - q)) := qc_of (minus p q hp hq)
theorem over' (p : Rat) (k : Int) (hk0 : k ≠ 0) (hp : SzQ 8900 p) (hk : Sz 90 k) : callT Q.over [.p (enQ p), .p (.int k)] = some (.p (enQ (p / k))) := by
  have hb : (p.den : Int) * k ≠ 0 := Int.mul_ne_zero (den_ne p) hk0
  have e : p / (k : Rat) = Rat.divInt p.num (p.den * k) := by
    conv => lhs; rw [q_eq p, ← divInt_1 k, Rat.div_def, Rat.inv_divInt]
    rw [Rat.divInt_mul_divInt]
    simp
  have hm : mulOk (p.den : Int) k = true := mulOk_sz hp.2 hk (by decide)
  have hf := fraction p.num (p.den * k) hb ((hp.2.mul hk).mono (by decide))
  refine callT_p rfl ?_
  unfold Q.over
  refine run_ret ?_
  rw [e]
  simp only [startE, List.map_cons, List.map_nil, List.length_cons, List.length_nil, ev_mCall, ev_aCons, ev_aNil, ev_mOp, ev_mVar, ev_mC]
  simp [enQ, at_q0, at_q1, hm, hf]
theorem p_over {p : Rat} {k : Int} (hk0 : k ≠ 0) (hp : SzQ 8900 p) (hk : Sz 90 k) : P.over (enQ p) (.int k) = some (enQ (p / k)) := qc_of (over' p k hk0 hp hk)
structure Dk (n : Nat) (b : List (Key × D)) (f : Nat → Option D) : Prop where
  nd : (b.map (·.1)).Nodup
  ks : ∀ kv ∈ b, ∃ v, v < n ∧ kv.1 = .inl (v : Int)
  val : ∀ v : Nat, valD b (.inl (v : Int)) = f v
theorem Dk.nil (n : Nat) : Dk n [] fun _ => none := ⟨by simp, by simp, fun _ => rfl⟩
theorem nodup_le {α : Type} : ∀ {l m : List α}, l.Nodup → (∀ x ∈ l, x ∈ m) → l.length ≤ m.length := by
  classical
  intro l
  induction l with
  | nil => intro m _ _; simp
  | cons a r ih =>
    intro m nd h
    have h1 := List.nodup_cons.mp nd
    have ha : a ∈ m := h a List.mem_cons_self
    have := ih (m := m.erase a) h1.2 fun x hx => by
      have hne : x ≠ a := fun z => h1.1 (z ▸ hx)
      exact (List.mem_erase_of_ne hne).mpr (h x (List.mem_cons_of_mem _ hx))
    rw [List.length_erase_of_mem ha] at this
    have : 0 < m.length := List.length_pos_of_mem ha
    simp only [List.length_cons]; omega
theorem Dk.len {n : Nat} {b : List (Key × D)} {f : Nat → Option D} (h : Dk n b f) : b.length ≤ n := by
  have := nodup_le (l := b.map (·.1)) (m := (List.range n).map fun (v : Nat) => (Sum.inl (v : Int) : Key)) h.nd fun x hx => by
    obtain ⟨kv, hkv, rfl⟩ := List.mem_map.mp hx
    obtain ⟨v, hv, e⟩ := h.ks kv hkv
    rw [e]
    exact List.mem_map.mpr ⟨v, List.mem_range.mpr hv, rfl⟩
  simpa using this
theorem val_put (b : List (Key × D)) (k k' : Key) (d : D) : valD (putD b k d) k' = if k = k' then some d else valD b k' := by
  unfold putD
  by_cases hk : (b.any fun kv => decide (kv.1 = k)) = true
  · rw [if_pos hk]
    induction b with
    | nil => simp at hk
    | cons x r ih =>
      obtain ⟨xk, xd⟩ := x
      simp only [List.map_cons, valD, List.find?_cons]
      by_cases e1 : xk = k
      · subst e1
        simp only [if_true]
        by_cases e2 : xk = k'
        · simp [e2]
        · simp only [e2, decide_false, if_false]
          by_cases hr : (r.any fun kv => decide (kv.1 = xk)) = true
          · have := ih hr
            simp only [valD, e2, if_false] at this
            exact this
          · have : (r.map fun kv => if kv.1 = xk then (kv.1, d) else kv) = r := by
              refine (List.map_congr_left fun kv hkv => ?_).trans (List.map_id _)
              rw [if_neg]; rfl
              intro z
              exact hr (List.any_eq_true.mpr ⟨kv, hkv, by simp [z]⟩)
            rw [this]
      · simp only [e1, if_false]
        have hr : (r.any fun kv => decide (kv.1 = k)) = true := by simpa [e1] using hk
        have := ih hr
        simp only [valD] at this
        by_cases e2 : xk = k'
        · subst e2
          have : ¬ k = xk := fun z => e1 z.symm
          simp [this]
        · simp only [e2, decide_false]
          exact this
  · rw [if_neg hk]
    simp only [valD, List.find?_append]
    have hn : ∀ kv ∈ b, ¬ kv.1 = k := fun kv hkv z => hk (List.any_eq_true.mpr ⟨kv, hkv, by simp [z]⟩)
    by_cases e : k = k'
    · subst e
      have : b.find? (fun kv => decide (kv.1 = k)) = none := List.find?_eq_none.mpr fun kv hkv => by simpa using hn kv hkv
      simp [this]
    · simp [e]
theorem Dk.put {n : Nat} {b : List (Key × D)} {f : Nat → Option D} (h : Dk n b f) {v : Nat} (hv : v < n) (hn : n ≤ 1000) (d : D) : ∃ b', putP b (.int (v : Int)) d = some b' ∧ Dk n b' fun i => if i = v then some d else f i := by
  refine ⟨putD b (.inl (v : Int)) d, ?_, ?_, ?_, ?_⟩
  · unfold putP
    have : b.length < LIM := by have := h.len; unfold LIM; omega
    simp [keyOf?, this]
  · unfold putD
    split
    · rw [List.map_map]
      have : ((fun x : Key × D => x.1) ∘ fun kv => if kv.1 = Sum.inl (v : Int) then (kv.1, d) else kv) = fun kv => kv.1 := by
        funext kv; simp only [Function.comp]; split <;> rfl
      rw [this]; exact h.nd
    · rename_i hk
      rw [List.map_append, List.nodup_append]
      refine ⟨h.nd, by simp, fun a ha x hx e => ?_⟩
      simp at hx
      subst hx e
      obtain ⟨kv, hkv, e⟩ := List.mem_map.mp ha
      exact hk (List.any_eq_true.mpr ⟨kv, hkv, by simp [e]⟩)
  · intro kv hkv
    unfold putD at hkv
    split at hkv
    · obtain ⟨x, hx, rfl⟩ := List.mem_map.mp hkv
      obtain ⟨u, hu, e⟩ := h.ks x hx
      refine ⟨u, hu, ?_⟩
      split <;> exact e
    · rcases List.mem_append.mp hkv with z | z
      · exact h.ks kv z
      · simp at z; rw [z]; exact ⟨v, hv, rfl⟩
  · intro u
    rw [val_put, h.val u]
    by_cases e : u = v
    · subst e; simp
    · have : ¬ (Sum.inl (v : Int) : Key) = Sum.inl (u : Int) := by simp; omega
      simp [e, this]
end C
namespace C
open PySem PySem.Spec PyProof.Rows L2 M N B

/-- what the other one's worth can be at most -/
def stp (sc : Bool) (c : CF) (w : WF) (u v : Nat) : Rat := if sc then w u * (c u v : Rat) / (c u u : Rat) else w u + ((c u v - c u u : Int) : Rat)
section
variable {n : Nat} {c : CF} {sc : Bool} {w w' : WF} {u v : Nat}
theorem qpos {k : Int} (h : 1 ≤ k) : (0 : Rat) < (k : Rat) := by exact_mod_cast (show (0 : Int) < k by omega)
theorem div_lt_div {a b d : Rat} (hd : 0 < d) (h : a < b) : a / d < b / d := by
  rw [Rat.div_lt_iff hd, Rat.div_mul_cancel (by grind)]; exact h
theorem stp_lt (h : Cst n c) (hu : u < n) (hv : v < n) (hl : w u < w' u) : stp sc c w u v < stp sc c w' u v := by
  unfold stp
  cases sc with
  | true =>
    simp only [if_true]
    exact div_lt_div (qpos (h.lo u u hu hu)) (Rat.mul_lt_mul_of_pos_right hl (qpos (h.lo u v hu hv)))
  | false =>
    simp only [Bool.false_eq_true, if_false]
    grind
theorem stp_congr (e : w u = w' u) : stp sc c w u v = stp sc c w' u v := by unfold stp; rw [e]
theorem stp_self (h : Cst n c) (hu : u < n) : stp sc c w u u = w u := by
  unfold stp
  cases sc with
  | true => simp only [if_true]; rw [Rat.mul_div_cancel]; have := qpos (h.lo u u hu hu); grind
  | false => simp only [Bool.false_eq_true, if_false, Int.sub_self]; grind
theorem stp_pos (h : Cst n c) (hu : u < n) (hv : v < n) (hw : 0 < w u) (hsc : sc = true) : 0 < stp sc c w u v := by
  subst hsc
  unfold stp
  simp only [if_true]
  have h1 := qpos (h.lo u u hu hu)
  have h2 := qpos (h.lo u v hu hv)
  have h3 : 0 < w u * (c u v : Rat) := Rat.mul_pos hw h2
  rw [Rat.lt_div_iff h1, Rat.zero_mul]
  exact h3
end
/-- what stands at each time; T: the clock -/
structure BF (n : Nat) (c : CF) (sc : Bool) (w : WF) (par : Nat → Option Nat) (τ ts : Nat → Nat) (T t : Nat) (pass : Nat → Nat → Nat) : Prop where
  pos : sc = true → ∀ v, v < n → 0 < w v
  le1 : ∀ v, v < n → w v ≤ 1
  edge : ∀ v u, v < n → par v = some u → u < n ∧ u ≠ v ∧ (stp sc c w u v < w v ∨ (stp sc c w u v = w v ∧ ts u < ts v))
  clk : ∀ v, ts v ≤ T
  root : ∀ v, v < n → par v = none → w v = 1 ∧ τ v = 0
  back : ∀ v, v < n → 1 ≤ τ v → ∃ u, par v = some u ∧ τ v ≤ τ u + 1
  tle : ∀ v, τ v ≤ t
  seen : ∀ u v, u < n → v < n → 1 ≤ pass u v → w v ≤ stp sc c w u v ∨ pass u v ≤ τ u
def upd1 {α : Type} (f : Nat → α) (j : Nat) (x : α) : Nat → α := fun i => if i = j then x else f i
theorem upd1_same {α : Type} {f : Nat → α} {j : Nat} {x : α} : upd1 f j x j = x := by simp [upd1]
theorem upd1_ne {α : Type} {f : Nat → α} {i j : Nat} {x : α} (h : i ≠ j) : upd1 f j x i = f i := by simp [upd1, h]
section
variable {n : Nat} {c : CF} {sc : Bool} {w : WF} {par : Nat → Option Nat} {τ ts : Nat → Nat} {T t : Nat} {pass pass' : Nat → Nat → Nat} {a b : Nat}
theorem BF.low (h : Cst n c) (s : BF n c sc w par τ ts T t pass) (ha : a < n) (hb : b < n) (hp : pass a b + 1 = t) (hp' : ∀ u v, u < n → v < n → pass' u v = if u = a ∧ v = b then t else pass u v) (hle : ∀ u v, u < n → v < n → pass u v ≤ t) (hl : stp sc c w a b < w b) :
    a ≠ b ∧ BF n c sc (updW w b (stp sc c w a b)) (upd1 par b (some a)) (upd1 τ b t) (upd1 ts b (T + 1)) (T + 1) t pass' := by
  have hab : a ≠ b := by
    intro z
    subst z
    rw [stp_self h ha] at hl
    grind
  have hwa : updW w b (stp sc c w a b) a = w a := updW_ne hab
  have sa : ∀ v, stp sc c (updW w b (stp sc c w a b)) a v = stp sc c w a v := fun v => stp_congr hwa
  have sne : ∀ u v, u ≠ b → stp sc c (updW w b (stp sc c w a b)) u v = stp sc c w u v := fun u v hu => stp_congr (updW_ne hu)
  have sb : ∀ v, v < n → stp sc c (updW w b (stp sc c w a b)) b v < stp sc c w b v := fun v hv => stp_lt h hb hv (by rw [updW_same]; exact hl)
  have wle : ∀ v, updW w b (stp sc c w a b) v ≤ w v := fun v => by
    by_cases e : v = b
    · rw [e, updW_same]; grind
    · rw [updW_ne e]; grind
  refine ⟨hab, ⟨fun hsc v hv => ?_, fun v hv => ?_, fun v u hv hu => ?_, fun v => ?_, fun v hv hn => ?_, fun v hv h1 => ?_, fun v => ?_, fun u v hu hv h1 => ?_⟩⟩
  · by_cases e : v = b
    · rw [e, updW_same]; exact stp_pos h ha hb (s.pos hsc a ha) hsc
    · rw [updW_ne e]; exact s.pos hsc v hv
  · have := s.le1 v hv; have := wle v; grind
  · by_cases e : v = b
    · subst e
      rw [upd1_same] at hu
      cases hu
      refine ⟨ha, hab, .inr ⟨by rw [sa, updW_same], ?_⟩⟩
      rw [upd1_ne hab, upd1_same]
      have := s.clk a; omega
    · rw [upd1_ne e] at hu
      obtain ⟨h1, h2, h3⟩ := s.edge v u hv hu
      refine ⟨h1, h2, ?_⟩
      rw [updW_ne e, upd1_ne e]
      by_cases e2 : u = b
      · subst e2
        left
        have := sb v hv
        rcases h3 with z | z <;> grind
      · rw [sne u v e2, upd1_ne e2]; exact h3
  · by_cases e : v = b
    · rw [e, upd1_same]; exact Nat.le_refl _
    · rw [upd1_ne e]; have := s.clk v; omega
  · by_cases e : v = b
    · rw [e, upd1_same] at hn; cases hn
    · rw [upd1_ne e] at hn
      rw [updW_ne e, upd1_ne e]; exact s.root v hv hn
  · have mono : ∀ u, τ u ≤ upd1 τ b t u := fun u => by
      by_cases e : u = b
      · rw [e, upd1_same]; exact s.tle b
      · rw [upd1_ne e]; exact Nat.le_refl _
    by_cases e : v = b
    · subst e
      refine ⟨a, upd1_same, ?_⟩
      rw [upd1_same, upd1_ne hab]
      by_cases h0 : 1 ≤ pass a v
      · rcases s.seen a v ha hb h0 with z | z
        · grind
        · omega
      · omega
    · rw [upd1_ne e] at h1
      obtain ⟨u, h2, h3⟩ := s.back v hv h1
      exact ⟨u, by rw [upd1_ne e]; exact h2, by rw [upd1_ne e]; exact Nat.le_trans h3 (Nat.add_le_add_right (mono u) 1)⟩
  · by_cases e : v = b
    · rw [e, upd1_same]; exact Nat.le_refl _
    · rw [upd1_ne e]; exact s.tle v
  · rw [hp' u v hu hv] at h1 ⊢
    by_cases e : u = a ∧ v = b
    · obtain ⟨rfl, rfl⟩ := e
      left
      rw [sa, updW_same]; grind
    · rw [if_neg e] at h1 ⊢
      by_cases e2 : u = b
      · right
        rw [e2, upd1_same]
        have := hle b v hb hv
        rw [← e2] at this ⊢; exact this
      · rw [sne u v e2, upd1_ne e2]
        rcases s.seen u v hu hv h1 with z | z
        · left; have := wle v; grind
        · exact .inr z
theorem BF.keep (s : BF n c sc w par τ ts T t pass) (hp' : ∀ u v, u < n → v < n → pass' u v = if u = a ∧ v = b then t else pass u v) (hl : ¬ stp sc c w a b < w b) : BF n c sc w par τ ts T t pass' :=
  ⟨s.pos, s.le1, s.edge, s.clk, s.root, s.back, s.tle, fun u v hu hv h1 => by
    rw [hp' u v hu hv] at h1 ⊢
    by_cases e : u = a ∧ v = b
    · obtain ⟨rfl, rfl⟩ := e
      left; grind
    · rw [if_neg e] at h1 ⊢
      exact s.seen u v hu hv h1⟩
theorem BF.conv (s : BF n c sc w par τ ts T t pass) {t' : Nat} (ht : t ≤ t') (hp : ∀ u v, u < n → v < n → pass' u v = pass u v) : BF n c sc w par τ ts T t' pass' :=
  ⟨s.pos, s.le1, s.edge, s.clk, s.root, s.back, fun v => Nat.le_trans (s.tle v) ht, fun u v hu hv h1 => by rw [hp u v hu hv] at h1 ⊢; exact s.seen u v hu hv h1⟩
theorem BF.start : BF n c sc (fun _ => 1) (fun _ => none) (fun _ => 0) (fun _ => 0) 0 0 fun _ _ => 0 :=
  ⟨(fun _ _ _ => by decide), (fun _ _ => by grind), (fun _ _ _ h => nomatch h), (fun _ => Nat.le_refl _), (fun _ _ _ => ⟨rfl, rfl⟩), (fun _ _ h => by omega), (fun _ => Nat.le_refl _), (fun _ _ _ _ h => by omega)⟩
end
def sumS (c : CF) : List Nat → Int
  | a :: b :: r => (c a b - c a a) + sumS c (b :: r)
  | _ => 0
section
variable {n : Nat} {c : CF} {w : WF} {par : Nat → Option Nat} {τ ts : Nat → Nat} {T t : Nat} {pass : Nat → Nat → Nat}
end
end C
namespace C
open PySem PySem.Spec PyProof.Rows L2 M N B

inductive Kd where
  | any | even | scaled
def Kd.str : Kd → Str
  | .any => "any"
  | .even => "even"
  | .scaled => "scaled"
/-- the costs of a round's steps, the last one's to a -/
def clos (c : CF) (a : Nat) : List Nat → List Int
  | [] => []
  | [x] => [c x a]
  | x :: y :: r => c x y :: clos c a (y :: r)
def owns (c : CF) (p : List Nat) : List Int := p.map fun x => c x x
def lprod : List Int → Int
  | [] => 1
  | x :: r => x * lprod r
def steps (c : CF) (p : List Nat) : List Int := clos c (p.headD 0) p
structure IsRnd (n : Nat) (p : List Nat) : Prop where
  len : 2 ≤ p.length
  nd : p.Nodup
  lt : ∀ x ∈ p, x < n
def LeAll : List Int → List Int → Prop
  | x :: xs, y :: ys => x ≤ y ∧ LeAll xs ys
  | _, _ => True
def Bars (k : Kd) (c : CF) (p : List Nat) : Prop := match k with
  | .any => LeAll (steps c p) (owns c p) ∧ steps c p ≠ owns c p
  | .even => (steps c p).sum < (owns c p).sum
  | .scaled => lprod (steps c p) < lprod (owns c p)
def Exp (n : Nat) (c : CF) (w l : WF) : Prop := ∀ i, i < n → 0 < l i ∧ ∀ j, j < n → w j ≤ w i + l i * ((c i j - c i i : Int) : Rat)
def KOk (k : Kd) (n : Nat) (c : CF) (w l : WF) : Prop := match k with
  | .any => True
  | .even => ∀ i, i < n → l i = 1
  | .scaled => ∀ i, i < n → 0 < w i ∧ w i = l i * (c i i : Rat)
def HasW (k : Kd) (n : Nat) (c : CF) : Prop := ∃ w l, Exp n c w l ∧ KOk k n c w l
theorem clos_sum (c : CF) (a : Nat) : ∀ {p : List Nat} {b : Nat}, p.getLast? = some b → (clos c a p).sum - (owns c p).sum = sumS c p + (c b a - c b b)
  | [], _, h => by simp at h
  | [x], b, h => by simp at h; subst h; simp [clos, owns, sumS]
  | x :: y :: r, b, h => by
    have := clos_sum c a (p := y :: r) (b := b) (by simpa using h)
    simp only [clos, owns, sumS, List.map_cons, List.sum_cons] at this ⊢
    omega
section
variable {n : Nat} {c : CF} {w : WF} {par : Nat → Option Nat} {τ ts : Nat → Nat} {T t : Nat} {pass : Nat → Nat → Nat}
end
end C
namespace C
open PySem PySem.Spec PyProof.Rows L2 M N B

@[simp] theorem c_xdgetD {x : List (Key × D)} {q : Option D} : xdgetD (some (dD x)) q = xdget x q := by simp [xdgetD, dct_dD]
@[simp] theorem c_xdget {x : List (Key × D)} {i : Int} : xdget x (some (.int i)) = valD x (.inl i) := rfl
section
variable {n : Nat} {c : CF} {sc : Bool} {w : WF} {par : Nat → Option Nat} {τ ts : Nat → Nat} {T t : Nat} {pass : Nat → Nat → Nat}
end
end C
set_option exponentiation.threshold 100
namespace C
open PySem PySem.Spec PyProof.Rows L2 M N B

theorem eqs {a b : Str} (ha : PyData.strOk a = true) (hb : PyData.strOk b = true) : op2 M.eqT (.str a) (.str b) = some (.bool (a == b)) := by
  rw [op_eq (n := 0) (show Pln 0 (.str a) from ha) (show Pln 0 (.str b) from hb)]
  simp [PyData.eqv]
/-- sizes: by the count of steps -/
def SzB (sc : Bool) (K : Nat) (q : Rat) : Prop := if sc then SzQ (43 * K + 1) q else ∃ k : Int, q = (k : Rat) ∧ k ≤ 1 ∧ 1 - (K : Int) * 6000000000000 ≤ k
section
variable {n : Nat} {c : CF} {sc : Bool} {w : WF} {a b K : Nat}
theorem SzB.mono {K' : Nat} {q : Rat} (h : SzB sc K q) (hk : K ≤ K') : SzB sc K' q := by
  unfold SzB at h ⊢
  cases sc with
  | true => simp only [if_true] at h ⊢; exact h.mono (by omega)
  | false =>
    simp only [Bool.false_eq_true, if_false] at h ⊢
    obtain ⟨k, h1, h2, h3⟩ := h
    exact ⟨k, h1, h2, by omega⟩
end
end C
set_option exponentiation.threshold 100
namespace C
open PySem PySem.Spec PyProof.Rows L2 M N B

@[simp] theorem c_xpair {α β : Type} {a : α} {b : β} : xpair (some a) (some b) = some (a, b) := rfl
section
variable {n : Nat} {c : CF} {sc : Bool} {w : WF} {par : Nat → Option Nat} {τ ts : Nat → Nat} {T t : Nat} {pass : Nat → Nat → Nat}
theorem tight (s : BF n c sc w par τ ts T t pass) (hf : ∀ u v, u < n → v < n → w v ≤ stp sc c w u v) {v u : Nat} (hv : v < n) (hp : par v = some u) : u < n ∧ stp sc c w u v = w v ∧ ts u < ts v := by
  obtain ⟨h1, h2, h3⟩ := s.edge v u hv hp
  rcases h3 with h3 | ⟨h3, h4⟩
  · have := hf u v h1 hv; grind
  · exact ⟨h1, h3, h4⟩
end
end C
namespace C
open PySem PySem.Spec PyProof.Rows L2 M N B

def wishD (n : Nat) (w l : WF) : D := .tuple [.str "wish", .tuple [.list (wl n w), .list (wl n l)]]
def roundD (p : List Nat) : D := .tuple [.str "round", .list (enI (natI p))]
inductive Told (k : Kd) (n : Nat) (c : CF) : D → Prop
  | wish (w l : WF) : Exp n c w l → KOk k n c w l → (∀ v, v < n → SzQ 1140 (w v) ∧ SzQ 1140 (l v)) → Told k n c (wishD n w l)
  | round (p : List Nat) : IsRnd n p → Bars k c p → Told k n c (roundD p)
theorem rep_wl (n : Nat) (q : Rat) : (List.replicate n [enQ q]).flatten = wl n (fun _ => q) := by
  unfold wl
  induction n with
  | zero => rfl
  | succ n ih => rw [List.replicate_succ', List.flatten_append, ih, List.range_succ, List.map_append]; simp
theorem rep_of {ds : List D} {n : Int} (h : rep62 ds.length n) : xrep (some (.list ds)) (some (.int n)) = some (List.replicate n.toNat ds).flatten := by
  unfold xrep
  simp only [Option.bind_some, c_intD]
  exact if_pos h
end C
namespace C
open PySem PySem.Spec PyProof.Rows L2 M N B

/-- a table of truths -/
def bRows (n : Nat) (f : Nat → Nat → Bool) : List (List Bool) := (List.range n).map fun k => (List.range n).map fun j => f k j
def Wb (n : Nat) (f : Nat → Nat → Bool) (a b : Nat) : Prop := a < n ∧ b < n ∧ f a b = true
theorem bRows_len (n : Nat) (f : Nat → Nat → Bool) : (bRows n f).length = n := by simp [bRows]
theorem bRows_sq {n : Nat} (f : Nat → Nat → Bool) (hn : n ≤ 100) : SqW (bRows n f) := ⟨fun r hr => by
  unfold bRows at hr ⊢
  obtain ⟨k, _, rfl⟩ := List.mem_map.mp hr
  simp, by rw [bRows_len]; exact hn⟩
theorem bRows_wv {n : Nat} {f : Nat → Nat → Bool} {a b : Nat} : wv (bRows n f) a b ↔ Wb n f a b := by
  unfold wv Wb bRows
  by_cases ha : a < n
  · by_cases hb : b < n
    · simp [List.getElem?_range, ha, hb]
    · simp [ha, hb, List.getElem?_eq_none]
  · simp [ha, List.getElem?_eq_none]
theorem p_way {n : Nat} (f : Nat → Nat → Bool) (hn : n ≤ 100) {one other : Nat} (h1 : one < n) (h2 : other < n) :
    ∃ r : Option (List Nat), P.way_between (enW (bRows n f)) (.int (one : Int)) (.int (other : Int)) = some (enR r) ∧ (∀ p, r = some p → Way (Wb n f) one other p ∧ ∀ x ∈ p, x < n) ∧ (r.isSome = true ↔ Reach (Wb n f) one other) := by
  obtain ⟨r, h, hp, hr⟩ := way_between (bRows_sq f hn) (one := one) (other := other) (by rw [bRows_len]; exact h1) (by rw [bRows_len]; exact h2)
  have hp' : ∀ p, r = some p → Way (Wb n f) one other p ∧ ∀ x ∈ p, x < n := fun p e => by
    obtain ⟨w, l⟩ := hp p e
    refine ⟨⟨w.hd, w.lst, steps_imp (fun a b z => bRows_wv.mp z) w.st, w.nd⟩, fun x hx => ?_⟩
    have := l x hx
    rwa [bRows_len] at this
  refine ⟨r, qc_of h, hp', ?_⟩
  cases r with
  | none =>
    simp only [Option.isSome_none, Bool.false_eq_true, false_iff]
    exact fun z => hr rfl (reach_imp (fun a b z => bRows_wv.mpr z) z)
  | some p =>
    simp only [Option.isSome_some, true_iff]
    have w := (hp' p rfl).1
    exact steps_reach w.st w.hd w.lst
/-- the row of a table -/
theorem ix_W {n : Nat} {f : Nat → Nat → Bool} {i : Nat} (hi : i < n) : op2 idxT (enW (bRows n f)) (.int (i : Int)) = some (.list (enBl ((List.range n).map fun j => f i j))) := by
  unfold enW bRows
  rw [List.map_map, c_ixl]
  exact at_range hi
theorem ix_Wr {n : Nat} {g : Nat → Bool} {j : Nat} (hj : j < n) : op2 idxT (.list (enBl ((List.range n).map g))) (.int (j : Int)) = some (.bool (g j)) := by
  unfold enBl
  rw [List.map_map, c_ixl]
  exact at_range hj
@[simp] theorem len_W {n : Nat} {f : Nat → Nat → Bool} : lenT [.p (enW (bRows n f))] = some (.p (.int n)) := by unfold enW bRows; simp
def opn (c : CF) (k j : Nat) : Bool := decide (j ≠ k ∧ c k j ≤ c k k)
abbrev Op (n : Nat) (c : CF) := Wb n (opn c)
end C
namespace C
open PySem PySem.Spec PyProof.Rows L2 M N B

theorem filter_le {α : Type} {p q : α → Bool} : ∀ {l : List α}, (∀ x ∈ l, p x = true → q x = true) → (l.filter p).length ≤ (l.filter q).length
  | [], _ => Nat.le_refl _
  | x :: r, h => by
    have ih := filter_le (l := r) fun y hy => h y (List.mem_cons_of_mem _ hy)
    have hx := h x List.mem_cons_self
    simp only [List.filter_cons]
    cases hp : p x with
    | true => rw [hx hp]; simp; exact ih
    | false =>
      cases q x with
      | true => simp; omega
      | false => simpa using ih
theorem filter_lt {α : Type} {p q : α → Bool} : ∀ {l : List α}, (∀ x ∈ l, p x = true → q x = true) → (∃ x ∈ l, q x = true ∧ p x = false) → (l.filter p).length < (l.filter q).length
  | [], _, h => by simp at h
  | x :: r, h, he => by
    have hr := fun y hy => h y (List.mem_cons_of_mem x hy)
    have hx := h x List.mem_cons_self
    simp only [List.filter_cons]
    by_cases hxx : q x = true ∧ p x = false
    · rw [hxx.1, hxx.2]
      have := filter_le hr
      simp; omega
    · have he' : ∃ y ∈ r, q y = true ∧ p y = false := by
        obtain ⟨y, hy, e⟩ := he
        rcases List.mem_cons.mp hy with rfl | hy
        · exact absurd e hxx
        · exact ⟨y, hy, e⟩
      have ih := filter_lt hr he'
      cases hp : p x with
      | true => rw [hx hp]; simp; exact ih
      | false =>
        cases hq : q x with
        | true => exact absurd ⟨hq, hp⟩ hxx
        | false => simpa using ih
open Classical in
/-- one above which none stands but those on its level -/
theorem max_ex {R : Nat → Nat → Prop} (hrefl : ∀ a, R a a) (htr : ∀ a b c, R a b → R b c → R a c) {lf : List Nat} : ∀ m k, k ∈ lf → (lf.filter fun j => decide (R j k)).length = m → ∃ k ∈ lf, ∀ j ∈ lf, R j k → R k j := by
  intro m
  induction m using Nat.strongRecOn with
  | _ m ih =>
    intro k hk hm
    by_cases hg : ∀ j ∈ lf, R j k → R k j
    · exact ⟨k, hk, hg⟩
    · obtain ⟨j, hj, h1, h2⟩ : ∃ j ∈ lf, R j k ∧ ¬ R k j := by
        refine Classical.byContradiction fun hno => hg fun j hj h1 => Classical.byContradiction fun h2 => hno ⟨j, hj, h1, h2⟩
      have hlt := filter_lt (p := fun i => decide (R i j)) (q := fun i => decide (R i k)) (l := lf) (fun x _ hx => by
        simp only [decide_eq_true_eq] at hx ⊢; exact htr x j k hx h1) ⟨k, hk, by simp only [decide_eq_true_eq, decide_eq_false_iff_not]; exact ⟨hrefl k, h2⟩⟩
      rw [hm] at hlt
      exact ih _ hlt j hj rfl
theorem all_bools (xs : List Bool) : (allT [.p (.list (enBl xs))]).bind T.pure? = some (.bool (xs.all id)) := by rw [allT_b]; rfl
theorem natI_map (lf : List Nat) : enI (natI lf) = lf.map fun (k : Nat) => PyData.int (k : Int) := by unfold enI natI; rw [List.map_map]; rfl
end C
set_option exponentiation.threshold 100
namespace C
open PySem PySem.Spec PyProof.Rows L2 M N B

theorem Dk.keys {n : Nat} {b : List (Key × D)} {f : Nat → Option D} (h : Dk n b f) : ∃ ks : List Nat, dkeys b = ks.map (fun (v : Nat) => PyData.int (v : Int)) ∧ (∀ v, v ∈ ks ↔ (f v).isSome = true) ∧ ks.length ≤ n ∧ ∀ v ∈ ks, v < n := by
  have key : ∀ b : List (Key × D), (∀ kv ∈ b, ∃ v, v < n ∧ kv.1 = .inl (v : Int)) → ∃ ks : List Nat, b.map (·.1) = ks.map (fun (v : Nat) => (Sum.inl (v : Int) : Key)) ∧ ∀ v ∈ ks, v < n := by
    intro b
    induction b with
    | nil => intro _; exact ⟨[], rfl, by simp⟩
    | cons x r ih =>
      intro hb
      obtain ⟨v, hv, e⟩ := hb x List.mem_cons_self
      obtain ⟨ks, h1, h2⟩ := ih fun kv hkv => hb kv (List.mem_cons_of_mem _ hkv)
      exact ⟨v :: ks, by simp [e, h1], by simpa using ⟨hv, h2⟩⟩
  obtain ⟨ks, h1, h2⟩ := key b h.ks
  have hlen : ks.length = b.length := by have := congrArg List.length h1; simpa using this.symm
  refine ⟨ks, ?_, fun v => ?_, by rw [hlen]; exact h.len, h2⟩
  · unfold dkeys
    have : (b.map fun p => keyD p.1) = (b.map (·.1)).map keyD := by rw [List.map_map]; rfl
    rw [this, h1, List.map_map]; rfl
  · rw [← h.val v]
    have hm : v ∈ ks ↔ (Sum.inl (v : Int) : Key) ∈ b.map (·.1) := by
      rw [h1]
      constructor
      · intro z; exact List.mem_map.mpr ⟨v, z, rfl⟩
      · intro z
        obtain ⟨u, hu, e⟩ := List.mem_map.mp z
        simp at e
        have : u = v := by omega
        rw [← this]; exact hu
    rw [hm]
    unfold valD
    simp only [Option.isSome_map, List.find?_isSome, decide_eq_true_eq, List.mem_map]
def IsI (q : Rat) : Prop := ∃ z : Int, q = (z : Rat)
theorem IsI.add {p q : Rat} (h : IsI p) (h' : IsI q) : IsI (p + q) := by
  obtain ⟨a, rfl⟩ := h; obtain ⟨b, rfl⟩ := h'; exact ⟨a + b, by norm_cast⟩
theorem IsI.sub {p q : Rat} (h : IsI p) (h' : IsI q) : IsI (p - q) := by
  obtain ⟨a, rfl⟩ := h; obtain ⟨b, rfl⟩ := h'; exact ⟨a - b, by norm_cast⟩
theorem IsI.mul {p q : Rat} (h : IsI p) (h' : IsI q) : IsI (p * q) := by
  obtain ⟨a, rfl⟩ := h; obtain ⟨b, rfl⟩ := h'; exact ⟨a * b, by norm_cast⟩
theorem IsI.of (z : Int) : IsI (z : Rat) := ⟨z, rfl⟩
/-- a fraction by a bottom of at most 2 ^ a, no greater than 2 ^ b -/
structure Gq (N : Int) (b : Nat) (q : Rat) : Prop where
  i : IsI ((N : Rat) * q)
  lo : -((2 ^ b : Nat) : Rat) ≤ q
  hi : q ≤ ((2 ^ b : Nat) : Rat)
theorem Gq.sz {N : Int} {a b : Nat} {q : Rat} (hN : 1 ≤ N) (hNa : N.natAbs < 2 ^ a) (g : Gq N b q) : SzQ (a + b + 1) q := by
  obtain ⟨z, hz⟩ := g.i
  have hNp := qpos hN
  have e : q = Rat.divInt z N := by
    rw [Rat.divInt_eq_div, ← hz, Rat.mul_comm, Rat.mul_div_cancel (by grind)]
  have h1 : (z : Rat) ≤ ((N * (2 ^ b : Nat) : Int) : Rat) := by
    rw [← hz, Rat.intCast_mul, Rat.intCast_natCast]
    exact Rat.mul_le_mul_of_nonneg_left g.hi (by grind)
  have h2 : ((-(N * (2 ^ b : Nat)) : Int) : Rat) ≤ (z : Rat) := by
    rw [← hz, Rat.intCast_neg, Rat.intCast_mul, Rat.intCast_natCast]
    have := Rat.mul_le_mul_of_nonneg_left g.lo (show 0 ≤ (N : Rat) by grind)
    grind
  have h1 : z ≤ N * (2 ^ b : Nat) := by exact_mod_cast h1
  have h2 : -(N * (2 ^ b : Nat)) ≤ z := by exact_mod_cast h2
  have hz' : z.natAbs ≤ N.natAbs * 2 ^ b := by
    have : N * ((2 ^ b : Nat) : Int) = ((N.natAbs * 2 ^ b : Nat) : Int) := by
      rw [Int.natCast_mul, Int.natAbs_of_nonneg (by omega)]
    omega
  rw [e]
  refine szq_divInt (by omega) ?_ ?_
  · unfold Sz
    have : N.natAbs * 2 ^ b < 2 ^ a * 2 ^ b := Nat.mul_lt_mul_of_pos_right hNa (Nat.pow_pos (by decide))
    rw [← Nat.pow_add] at this
    have h3 : 2 ^ (a + b) ≤ 2 ^ (a + b + 1) := Nat.pow_le_pow_right (by decide) (by omega)
    omega
  · unfold Sz
    have h3 : 2 ^ a ≤ 2 ^ (a + b + 1) := Nat.pow_le_pow_right (by decide) (by omega)
    omega
theorem Gq.mono {N : Int} {b b' : Nat} {q : Rat} (g : Gq N b q) (h : b ≤ b') : Gq N b' q := by
  have : ((2 ^ b : Nat) : Rat) ≤ ((2 ^ b' : Nat) : Rat) := by exact_mod_cast Nat.pow_le_pow_right (by decide) h
  exact ⟨g.i, by have := g.lo; grind, by have := g.hi; grind⟩
end C
set_option exponentiation.threshold 100
namespace C
open PySem PySem.Spec PyProof.Rows L2 M N B

def enF (pd : List Nat) (w : WF) (v : Nat) : Option D := if v ∈ pd then some (enQ (w v)) else none
/-- those done (pd) and those left (lf), behind m levels -/
structure AW (n : Nat) (c : CF) (m : Nat) (bw bl : List (Key × D)) (pd lf : List Nat) (w l : WF) (N : Int) : Prop where
  wd : Dk n bw (enF pd w)
  ld : Dk n bl (enF pd l)
  pn : ∀ v ∈ pd, v < n
  ln : ∀ v ∈ lf, v < n
  nd : lf.Nodup
  all : ∀ v, v < n → v ∈ pd ∨ v ∈ lf
  dis : ∀ v ∈ lf, v ∉ pd
  ex : ∀ i ∈ pd, ∀ j ∈ pd, w j ≤ w i + l i * ((c i j - c i i : Int) : Rat)
  l1 : ∀ i ∈ pd, 1 ≤ l i
  w1 : ∀ i ∈ pd, w i ≤ 1
  cl : ∀ i ∈ lf, ∀ j ∈ pd, ¬ Reach (Op n c) i j
  n1 : 1 ≤ N
  nb : N.natAbs ≤ 6000000000000 ^ m
  gw : ∀ i ∈ pd, Gq N (44 * m) (w i)
  gl : ∀ i ∈ pd, Gq N (44 * m) (l i)
  cnt : m + lf.length ≤ n
theorem pow6 (m : Nat) : 6000000000000 ^ m < 2 ^ (43 * m + 1) := by
  have : 6000000000000 ^ m ≤ (2 ^ 43) ^ m := Nat.pow_le_pow_left (by decide) m
  rw [← Nat.pow_mul] at this
  have h2 : 2 ^ (43 * m) < 2 ^ (43 * m + 1) := Nat.pow_lt_pow_right (by decide) (by omega)
  omega
section
variable {n : Nat} {c : CF} {m : Nat} {bw bl : List (Key × D)} {pd lf L : List Nat} {w l : WF} {N : Int}
theorem AW.lt (a : AW n c m bw bl pd lf w l N) (hc : Cst n c) (hne : lf ≠ []) : m ≤ 12 := by
  have h1 := a.cnt
  have h2 := hc.n13
  have : 0 < lf.length := List.length_pos_iff.mpr hne
  omega
theorem AW.sz {q : Rat} (a : AW n c m bw bl pd lf w l N) (hm : m ≤ 12) (g : Gq N (44 * m + 43) q) : SzQ 1200 q :=
  (g.sz a.n1 (Nat.lt_of_le_of_lt a.nb (pow6 m))).mono (by omega)
end
end C
set_option exponentiation.threshold 100
namespace C
open PySem PySem.Spec PyProof.Rows L2 M N B

theorem ne_nil_nat (L : List Nat) : op2 M.neT (.list (enI (natI L))) (.list []) = some (.bool (!L.isEmpty)) := by
  rw [op2, ne_nil_ints]
  cases L <;> rfl
end C
set_option exponentiation.threshold 100
namespace C
open PySem PySem.Spec PyProof.Rows L2 M N B

theorem natI_range (n : Nat) : enI (natI (List.range n)) = rangeD 0 (n : Int) := by rw [natI_map, rangeD_map]
end C
namespace C
open PySem PySem.Spec PyProof.Rows L2 M N B

section
variable {n : Nat} {c : CF} {w l : WF}
end
end C
namespace C
open PySem PySem.Spec PyProof.Rows L2 M N B

section
variable {k : Kd} {n m : Nat} {c c' : CF}
theorem HasW.any (h : HasW k n c) : HasW .any n c := by
  obtain ⟨w, l, e, _⟩ := h
  exact ⟨w, l, e, trivial⟩
/-- the rows so many times as great: any, scaled -/
theorem HasW.rows (h : HasW k n c) (hk : k ≠ .even) (s : Nat → Rat) (hs : ∀ i, i < n → 0 < s i) (hc : ∀ i j, i < n → j < n → (c' i j : Rat) = s i * (c i j : Rat)) : HasW k n c' := by
  obtain ⟨w, l, e, ko⟩ := h
  have key : ∀ i, i < n → l i / s i * s i = l i := fun i hi => Rat.div_mul_cancel (by have := hs i hi; grind)
  refine ⟨w, fun i => l i / s i, fun i hi => ⟨?_, fun j hj => ?_⟩, ?_⟩
  · rw [Rat.lt_div_iff (hs i hi), Rat.zero_mul]; exact (e i hi).1
  · have h1 := (e i hi).2 j hj
    rw [Rat.intCast_sub] at h1 ⊢
    rw [hc i j hi hj, hc i i hi hi]
    have h2 := key i hi
    show w j ≤ w i + l i / s i * (s i * (c i j : Rat) - s i * (c i i : Rat))
    generalize l i / s i = t at h2 ⊢
    have e2 : t * (s i * (c i j : Rat) - s i * (c i i : Rat)) = t * s i * ((c i j : Rat) - (c i i : Rat)) := by grind
    rw [e2, h2]; exact h1
  · cases k with
    | any => trivial
    | even => exact absurd rfl hk
    | scaled =>
      intro i hi
      refine ⟨(ko i hi).1, ?_⟩
      rw [hc i i hi hi]
      have h2 := key i hi
      have h3 := (ko i hi).2
      show w i = l i / s i * (s i * (c i i : Rat))
      generalize l i / s i = t at h2 ⊢
      rw [← Rat.mul_assoc, h2]; exact h3
/-- all so many times as great -/
theorem HasW.all (h : HasW k n c) (s : Rat) (hs : 0 < s) (hc : ∀ i j, i < n → j < n → (c' i j : Rat) = s * (c i j : Rat)) : HasW k n c' := by
  by_cases hk : k = .even
  · subst hk
    obtain ⟨w, l, e, ko⟩ := h
    refine ⟨fun i => s * w i, l, fun i hi => ⟨(e i hi).1, fun j hj => ?_⟩, ko⟩
    have h1 := (e i hi).2 j hj
    rw [ko i hi] at h1 ⊢
    rw [Rat.intCast_sub] at h1 ⊢
    rw [hc i j hi hj, hc i i hi hi]
    have := Rat.mul_le_mul_of_nonneg_left h1 (show 0 ≤ s by grind)
    grind
  · exact h.rows hk (fun _ => s) (fun _ _ => hs) hc
end
end C
namespace C
open PySem PySem.Spec PyProof.Rows L2 M N B

theorem foldC_all {α ρ : Type} {step : Unit → D → Option (Ct Unit ρ)} (en : α → D) (p : α → Bool) (r : ρ) : ∀ xs : List α, (∀ x ∈ xs, step () (en x) = some (if p x then .nx () else .rt r)) → foldC step (xs.map en) () = some (if xs.all p then .nx () else .rt r)
  | [], _ => rfl
  | x :: xs, h => by
    have h1 := h x List.mem_cons_self
    have ih := foldC_all en p r xs fun y hy => h y (List.mem_cons_of_mem _ hy)
    rw [List.map_cons, foldC, h1]
    cases hp : p x
    · simp [hp]
    · simp only [if_true, Option.bind_some, ih, List.all_cons, hp, Bool.true_and]
end C
namespace C
open PySem PySem.Spec PyProof.Rows L2 M N B

section
variable (k : Kd)
end

theorem len_Bk (bk : List Buy) : (lenT [.p (enBk bk)]).bind T.pure? = some (.int bk.length) := by simp [enBk, lenT, T.kids, T.pure?, T.seq?, T.lst?, T.tup?]

end C
namespace C
open PySem PySem.Spec PyProof.Rows L2 M N B

/-- a loop that tells one for each item -/
theorem fold_app {α : Type} {step : List D → D → Option (List D)} (en : α → D) (f : α → D) : ∀ (xs : List α) (acc : List D), (∀ x ∈ xs, ∀ acc : List D, acc.length < acc.length + xs.length → acc.length ≤ 1000 → step acc (en x) = some (acc ++ [f x])) → acc.length + xs.length ≤ 1000 → fold step (xs.map en) acc = some (acc ++ xs.map f)
  | [], acc, _, _ => by simp [fold]
  | x :: r, acc, h, hl => by
    simp only [List.map_cons, fold]
    simp only [List.length_cons] at hl
    rw [h x List.mem_cons_self acc (by simp only [List.length_cons]; omega) (by omega), Option.bind_some, fold_app en f r (acc ++ [f x]) (fun y hy acc' h1 h2 => h y (List.mem_cons_of_mem _ hy) acc' (by simp only [List.length_cons]; omega) h2) (by simp; omega)]
    simp
theorem apd_of {acc : List D} {y : D} (h : acc.length ≤ 1000) : apd acc y = some (acc ++ [y]) := by
  unfold apd
  rw [if_pos (by unfold LIM; omega)]
end C
namespace C
open PySem PySem.Spec PyProof.Rows L2 M N B

end C
namespace C
open PySem PySem.Spec PyProof.Rows L2 M N B

theorem num_den (q : Rat) : (q.num : Rat) / (q.den : Rat) = q := by
  have h : q = Rat.divInt q.num q.den := by rw [Rat.divInt_ofNat, Rat.mkRat_self]
  have h2 := Rat.divInt_eq_div q.num q.den
  rw [← h] at h2
  exact h2.symm
theorem den_rat (q : Rat) : (q.den : Rat) ≠ 0 := by have := q.den_nz; exact_mod_cast this
theorem den_ne0 (q : Rat) : (q.den : Int) ≠ 0 := by have := q.den_nz; omega
section
variable {n m : Nat} {c c' : CF} {w l w' l' : WF}
theorem Exp.more (h : Exp n c w l) (x : Rat) : Exp n c (fun i => w i + x) l := fun i hi => ⟨(h i hi).1, fun j hj => by have := (h i hi).2 j hj; grind⟩
theorem Exp.mul (h : Exp n c w l) {q : Rat} (hq : 0 < q) : Exp n c (fun i => w i * q) (fun i => l i * q) := fun i hi => ⟨Rat.mul_pos (h i hi).1 hq, fun j hj => by
  have h1 := (h i hi).2 j hj
  have h2 := Rat.mul_le_mul_of_nonneg_right h1 (by grind : 0 ≤ q)
  grind⟩
theorem Exp.congr (h : Exp n c w l) (hw : ∀ i, i < n → w' i = w i) (hl : ∀ i, i < n → l' i = l i) : Exp n c w' l' := fun i hi => by
  rw [hl i hi, hw i hi]
  exact ⟨(h i hi).1, fun j hj => by rw [hw j hj]; exact (h i hi).2 j hj⟩
theorem KOk.congr {k : Kd} (h : KOk k n c w l) (hw : ∀ i, i < n → w' i = w i) (hl : ∀ i, i < n → l' i = l i) : KOk k n c w' l' := by
  cases k with
  | any => trivial
  | even => exact fun i hi => by rw [hl i hi]; exact h i hi
  | scaled => exact fun i hi => by rw [hl i hi, hw i hi]; exact h i hi
end
theorem run_law {q : Option T} {p : Option D} (r : FR RTp q p) (h : p = some (.bool true)) : q = some (.p (.bool true)) := by
  obtain ⟨t, h1, h2⟩ := r _ h
  rw [h1, h2]
end C
namespace C
open PySem PySem.Spec PyProof.Rows L2 M N B

abbrev AF := Nat → Nat → Rat
/-- what a walk comes to; its end stands first -/
def wr (A : AF) : List Nat → Rat
  | v :: u :: r => A u v + wr A (u :: r)
  | _ => 0
def RWk (n : Nat) : List Nat → Prop
  | [] => False
  | [v] => v < n
  | v :: u :: r => v < n ∧ u ≠ v ∧ RWk n (u :: r)
section
variable {A : AF} {n : Nat}
theorem wr_app : ∀ (x : List Nat) (v : Nat) (y : List Nat), wr A (x ++ v :: y) = wr A (x ++ [v]) + wr A (v :: y)
  | [], v, y => by simp [wr]; grind
  | [w], v, y => by simp [wr]; grind
  | w :: u :: x, v, y => by
    have ih := wr_app (u :: x) v y
    simp only [List.cons_append, wr] at ih ⊢
    grind
theorem rwk_app : ∀ (x : List Nat) (v : Nat) (y : List Nat), RWk n (x ++ v :: y) ↔ RWk n (x ++ [v]) ∧ RWk n (v :: y)
  | [], v, y => by
    constructor
    · intro h
      refine ⟨?_, h⟩
      cases y with
      | nil => exact h
      | cons u r => exact h.1
    · exact fun h => h.2
  | [w], v, y => by
    constructor
    · intro h
      refine ⟨⟨h.1, h.2.1, ?_⟩, h.2.2⟩
      cases y with
      | nil => exact h.2.2
      | cons u r => exact h.2.2.1
    · exact fun h => ⟨h.1.1, h.1.2.1, h.2⟩
  | w :: u :: x, v, y => by
    have ih := rwk_app (u :: x) v y
    simp only [List.cons_append, RWk] at ih ⊢
    rw [ih]
    constructor
    · exact fun h => ⟨⟨h.1, h.2.1, h.2.2.1⟩, h.2.2.2⟩
    · exact fun h => ⟨h.1.1, h.1.2.1, h.1.2.2, h.2⟩
theorem RWk.lt : ∀ {p : List Nat}, RWk n p → ∀ x ∈ p, x < n
  | [], h, _, _ => h.elim
  | [v], h, x, hx => by simp at hx; subst hx; exact h
  | v :: u :: r, h, x, hx => by
    rcases List.mem_cons.mp hx with rfl | hx
    · exact h.1
    · exact RWk.lt h.2.2 x hx
theorem RWk.ne : ∀ {p : List Nat}, RWk n p → p ≠ []
  | [], h => h.elim
  | _ :: _, _ => by simp
theorem dup_split : ∀ {p : List Nat}, ¬ p.Nodup → ∃ x v y z, p = x ++ v :: (y ++ v :: z)
  | [], h => absurd List.nodup_nil h
  | w :: p, h => by
    by_cases hw : w ∈ p
    · obtain ⟨y, z, rfl⟩ := List.append_of_mem hw
      exact ⟨[], w, y, z, rfl⟩
    · have : ¬ p.Nodup := fun hp => h (List.nodup_cons.mpr ⟨hw, hp⟩)
      obtain ⟨x, v, y, z, rfl⟩ := dup_split this
      exact ⟨w :: x, v, y, z, rfl⟩
theorem long_dup {p : List Nat} (h : RWk n p) (hl : n < p.length) : ∃ x v y z, p = x ++ v :: (y ++ v :: z) := by
  refine dup_split fun hn => ?_
  have := nodup_le hn (m := List.range n) fun x hx => List.mem_range.mpr (h.lt x hx)
  simp at this; omega
/-- a round cut out -/
theorem cut_wr (x : List Nat) (v : Nat) (y z : List Nat) : wr A (x ++ v :: (y ++ v :: z)) = wr A (x ++ v :: z) + wr A (v :: (y ++ [v])) := by
  rw [wr_app x v (y ++ v :: z), wr_app x v z, show v :: (y ++ v :: z) = (v :: y) ++ v :: z from rfl, wr_app (v :: y) v z]
  simp only [List.cons_append]
  grind
theorem cut_rwk {x : List Nat} {v : Nat} {y z : List Nat} (h : RWk n (x ++ v :: (y ++ v :: z))) : RWk n (x ++ v :: z) ∧ RWk n (v :: (y ++ [v])) := by
  rw [rwk_app] at h
  have h2 : RWk n ((v :: y) ++ v :: z) := h.2
  rw [rwk_app] at h2
  exact ⟨(rwk_app x v z).mpr ⟨h.1, h2.2⟩, h2.1⟩
theorem cut_head (x : List Nat) (v : Nat) (y z : List Nat) : (x ++ v :: (y ++ v :: z)).head? = (x ++ v :: z).head? := by cases x <;> rfl
theorem cut_last (x : List Nat) (v : Nat) (y z : List Nat) : (x ++ v :: (y ++ v :: z)).getLast? = (x ++ v :: z).getLast? := by
  rw [List.getLast?_append, List.getLast?_append, show v :: (y ++ v :: z) = (v :: y) ++ v :: z from rfl, List.getLast?_append]
  cases h : (v :: z).getLast? with
  | none => simp at h
  | some w => simp
/-- no closed walk comes to less than 0: a short walk comes to no more -/
theorem reduce (hneg : ∀ v y, RWk n (v :: (y ++ [v])) → 0 ≤ wr A (v :: (y ++ [v]))) : ∀ (m : Nat) {p : List Nat}, p.length ≤ m → RWk n p → ∃ q, RWk n q ∧ q.head? = p.head? ∧ q.getLast? = p.getLast? ∧ q.length ≤ n ∧ wr A q ≤ wr A p
  | 0, p, hm, h => by have := h.ne; cases p with | nil => exact absurd rfl this | cons _ _ => simp at hm
  | m + 1, p, hm, h => by
    by_cases hl : p.length ≤ n
    · exact ⟨p, h, rfl, rfl, hl, by grind⟩
    · obtain ⟨x, v, y, z, rfl⟩ := long_dup h (by omega)
      obtain ⟨h1, h2⟩ := cut_rwk h
      obtain ⟨q, a1, a2, a3, a4, a5⟩ := reduce hneg m (p := x ++ v :: z) (by simp at hm ⊢; omega) h1
      refine ⟨q, a1, by rw [a2, cut_head], by rw [a3, cut_last], a4, ?_⟩
      rw [cut_wr]
      have := hneg v y h2
      grind
theorem wr_lo {Mx : Rat} (hA : ∀ u v, u < n → v < n → -Mx ≤ A u v) (hM : 0 ≤ Mx) : ∀ {p : List Nat}, RWk n p → -(p.length * Mx) ≤ wr A p
  | [], h => h.elim
  | [v], h => by simp [wr]; grind
  | v :: u :: r, h => by
    have ih := wr_lo hA hM h.2.2
    have h1 := hA u v (h.2.2.lt u List.mem_cons_self) h.1
    simp only [wr, List.length_cons] at ih ⊢
    push_cast at ih ⊢
    grind
theorem wr_shift (a : AF) (μ : Rat) : ∀ p : List Nat, wr (fun u v => a u v - μ) p = wr a p - ((p.length - 1 : Nat) : Rat) * μ
  | [] => by simp [wr]; grind
  | [v] => by simp [wr]; grind
  | v :: u :: r => by
    have ih := wr_shift a μ (u :: r)
    simp only [wr, List.length_cons, Nat.add_sub_cancel] at ih ⊢
    rw [ih]
    push_cast
    grind
end
theorem arch (x g : Rat) (hg : 0 < g) : ∃ m : Nat, x < (m : Rat) * g := by
  refine ⟨(x / g).num.natAbs + 1, ?_⟩
  have h1 : x / g ≤ ((x / g).num.natAbs : Rat) := by
    rw [Rat.le_iff]
    have hd := (x / g).den_pos
    have e1 : (((x / g).num.natAbs : Nat) : Rat).num = ((x / g).num.natAbs : Int) := by simp
    have e2 : (((x / g).num.natAbs : Nat) : Rat).den = 1 := by simp
    rw [e1, e2]
    generalize (x / g).num = a at *
    generalize (x / g).den = b at *
    have h2 : (a.natAbs : Int) * 1 ≤ (a.natAbs : Int) * (b : Int) := Int.mul_le_mul_of_nonneg_left (by omega) (by omega)
    have h3 : a ≤ (a.natAbs : Int) := by omega
    omega
  have h2 : x / g * g = x := by grind
  have h3 := Rat.mul_le_mul_of_nonneg_right h1 (by grind : 0 ≤ g)
  push_cast
  grind
end C
namespace C
open PySem PySem.Spec PyProof.Rows L2 M N B

abbrev IF := Nat → Nat → Int
def dk (n : Nat) (a : IF) : Nat → Nat → Option Int
  | 0, v => if v = 0 then some 0 else none
  | k + 1, v => minI ((List.range n).filterMap fun u => if u ≠ v then (dk n a k u).map fun x => x + a u v else none)
def rt (a : IF) : AF := fun u v => (a u v : Rat)
theorem minI_some {ns : List Int} {x : Int} (h : x ∈ ns) : ∃ m, minI ns = some m ∧ m ≤ x := by
  cases ns with
  | nil => simp at h
  | cons y r => exact ⟨_, rfl, (minI_spec (ns := y :: r) rfl).2 x h⟩
section
variable {n : Nat} {a : IF}
theorem dk_le (n1 : 1 ≤ n) : ∀ (k v : Nat) (p : List Nat), RWk n p → p.head? = some v → p.getLast? = some 0 → p.length = k + 1 → ∃ x, dk n a k v = some x ∧ (x : Rat) ≤ wr (rt a) p
  | 0, v, p, h, h1, h2, hl => by
    match p, hl with
    | [w], _ =>
      simp at h1 h2
      subst h1 h2
      exact ⟨0, by simp [dk], by simp [wr]⟩
  | k + 1, v, p, h, h1, h2, hl => by
    match p, hl with
    | w :: u :: r, hl =>
      simp at h1
      subst h1
      obtain ⟨x, e1, e2⟩ := dk_le n1 k u (u :: r) h.2.2 rfl (by simpa [List.getLast?_cons_cons] using h2) (by simpa using hl)
      have hm : x + a u w ∈ (List.range n).filterMap fun u => if u ≠ w then (dk n a k u).map fun x => x + a u w else none := by
        rw [List.mem_filterMap]
        exact ⟨u, List.mem_range.mpr (h.2.2.lt u List.mem_cons_self), by rw [if_pos h.2.1, e1]; rfl⟩
      obtain ⟨m, e3, e4⟩ := minI_some hm
      refine ⟨m, e3, ?_⟩
      have : (m : Rat) ≤ ((x + a u w : Int) : Rat) := by exact_mod_cast e4
      simp only [wr, rt]
      push_cast at this
      grind
theorem dk_ex (n1 : 1 ≤ n) : ∀ (k v : Nat) (x : Int), v < n → dk n a k v = some x → ∃ p, RWk n p ∧ p.head? = some v ∧ p.getLast? = some 0 ∧ p.length = k + 1 ∧ wr (rt a) p = x
  | 0, v, x, hv, e => by
    simp only [dk] at e
    split at e
    · rename_i hv0
      cases e
      subst hv0
      exact ⟨[0], hv, rfl, rfl, rfl, by simp [wr]⟩
    · cases e
  | k + 1, v, x, hv, e => by
    simp only [dk] at e
    obtain ⟨h1, _⟩ := minI_spec e
    rw [List.mem_filterMap] at h1
    obtain ⟨u, hu, h2⟩ := h1
    split at h2
    · rename_i huv
      rw [Option.map_eq_some_iff] at h2
      obtain ⟨y, e1, rfl⟩ := h2
      obtain ⟨p, b1, b2, b3, b4, b5⟩ := dk_ex n1 k u y (List.mem_range.mp hu) e1
      match p, b2 with
      | w :: r, b2 =>
        simp at b2
        subst b2
        refine ⟨v :: w :: r, ⟨hv, huv, b1⟩, rfl, by simpa [List.getLast?_cons_cons] using b3, by simpa using b4, ?_⟩
        simp only [wr, rt] at b5 ⊢
        rw [b5]; push_cast; grind
    · cases h2
/-- from a closed walk that comes to less than 0, walks that come to as little as you like -/
theorem pump {A : AF} {v : Nat} {y : List Nat} (hv : v < n) (hc : RWk n (v :: (y ++ [v]))) (n0 : 0 < n) : ∀ m : Nat, ∃ t, RWk n (v :: t) ∧ (v :: t).getLast? = some 0 ∧ wr A (v :: t) = (m : Rat) * wr A (v :: (y ++ [v])) + wr A (if v = 0 then [0] else [v, 0])
  | 0 => by
    by_cases h : v = 0
    · subst h; exact ⟨[], n0, rfl, by simp; grind⟩
    · exact ⟨[0], ⟨hv, fun e => h e.symm, n0⟩, rfl, by simp [h]; grind⟩
  | m + 1 => by
    obtain ⟨t, h1, h2, h3⟩ := pump (A := A) hv hc n0 m
    refine ⟨y ++ v :: t, ?_, ?_, ?_⟩
    · exact (rwk_app (v :: y) v t).mpr ⟨hc, h1⟩
    · have : (v :: (y ++ v :: t)).getLast? = (v :: t).getLast? := by
        have := cut_last [] v y t
        simpa using this
      rw [this, h2]
    · have := wr_app (A := A) (v :: y) v t
      simp only [List.cons_append] at this
      rw [this, h3]; push_cast; grind
structure IsMean (n : Nat) (a : IF) (μ : Rat) : Prop where
  ex : ∃ v y, v < n ∧ dk n a n v = some y ∧ ∀ k x, k < n → dk n a k v = some x → ((y - x : Int) : Rat) ≤ μ * ((n - k : Nat) : Rat)
  all : ∀ v y, v < n → dk n a n v = some y → ∃ k x, k < n ∧ dk n a k v = some x ∧ μ * ((n - k : Nat) : Rat) ≤ ((y - x : Int) : Rat)
def shf (a : IF) (μ : Rat) : AF := fun u v => (a u v : Rat) - μ
theorem wr_shf (μ : Rat) (p : List Nat) : wr (shf a μ) p = wr (rt a) p - ((p.length - 1 : Nat) : Rat) * μ := wr_shift (rt a) μ p
theorem mean_short {μ : Rat} (h : IsMean n a μ) (n1 : 1 ≤ n) : ∀ (m : Nat) {p : List Nat}, p.length ≤ m → RWk n p → p.getLast? = some 0 → ∃ q, RWk n q ∧ q.length ≤ n ∧ wr (shf a μ) q ≤ wr (shf a μ) p
  | 0, p, hm, hp, _ => by have := hp.ne; cases p with | nil => exact absurd rfl this | cons _ _ => simp at hm
  | m + 1, p, hm, hp, h0 => by
    by_cases hl : p.length ≤ n
    · exact ⟨p, hp, hl, by grind⟩
    · obtain ⟨x, v, r, e, er⟩ : ∃ x v r, p = x ++ v :: r ∧ r.length = n := by
        have hd : (p.drop (p.length - (n + 1))).length = n + 1 := by simp; omega
        cases hc : p.drop (p.length - (n + 1)) with
        | nil => rw [hc] at hd; simp at hd
        | cons v r =>
          rw [hc] at hd
          exact ⟨p.take (p.length - (n + 1)), v, r, by rw [← hc, List.take_append_drop], by simpa using hd⟩
      subst e
      obtain ⟨h1, h2⟩ := (rwk_app x v r).mp hp
      have h3 : (v :: r).getLast? = some 0 := by
        rw [List.getLast?_append] at h0
        cases hq : (v :: r).getLast? with
        | none => simp at hq
        | some w => rw [hq] at h0; simpa using h0
      obtain ⟨y, e1, e2⟩ := dk_le (a := a) n1 n v (v :: r) h2 rfl h3 (by simp [er])
      have hv := h2.lt v List.mem_cons_self
      obtain ⟨k, z, hk, e3, e4⟩ := h.all v y hv e1
      obtain ⟨s, c1, c2, c3, c4, c5⟩ := dk_ex (a := a) n1 k v z hv e3
      match s, c2 with
      | w :: s, c2 =>
        simp at c2; subst c2
        have c4' : s.length = k := by simpa using c4
        obtain ⟨q, a1, a2, a3⟩ := mean_short h n1 m (p := x ++ w :: s) (by simp at hm ⊢; omega) ((rwk_app x w s).mpr ⟨h1, c1⟩) (by
          rw [List.getLast?_append, c3]; rfl)
        refine ⟨q, a1, a2, Rat.le_trans a3 ?_⟩
        rw [wr_app x w s, wr_app x w r, wr_shf μ (w :: s), wr_shf μ (w :: r), c5]
        simp only [List.length_cons, Nat.add_sub_cancel, er, c4']
        have e5 : ((n - k : Nat) : Rat) = (n : Rat) - (k : Rat) := by
          have : ((n - k : Nat) : Rat) + (k : Rat) = (n : Rat) := by exact_mod_cast (by omega : n - k + k = n)
          grind
        rw [e5] at e4
        push_cast at e4
        grind
theorem IsMean.no_less {μ : Rat} (h : IsMean n a μ) (n1 : 1 ≤ n) {Mx : Rat} (hA : ∀ u v, u < n → v < n → -Mx ≤ shf a μ u v) (hM : 0 ≤ Mx) (v : Nat) (y : List Nat) (hc : RWk n (v :: (y ++ [v]))) : 0 ≤ wr (shf a μ) (v :: (y ++ [v])) := by
  have hv := hc.lt v List.mem_cons_self
  apply Classical.byContradiction
  intro hneg
  have hg : 0 < -(wr (shf a μ) (v :: (y ++ [v]))) := by grind
  obtain ⟨m, hm⟩ := arch (wr (shf a μ) (if v = 0 then [0] else [v, 0]) + n * Mx) _ hg
  obtain ⟨t, t1, t2, t3⟩ := pump (A := shf a μ) hv hc (by omega) m
  obtain ⟨q, q1, q2, q3⟩ := mean_short h n1 _ (Nat.le_refl _) t1 t2
  have q4 := wr_lo hA hM q1
  have q5 : (q.length : Rat) ≤ (n : Rat) := by exact_mod_cast q2
  have q6 := Rat.mul_le_mul_of_nonneg_right q5 hM
  rw [t3] at q3
  grind
theorem IsMean.round {μ : Rat} (h : IsMean n a μ) (n1 : 1 ≤ n) : ∃ v y, RWk n (v :: (y ++ [v])) ∧ wr (shf a μ) (v :: (y ++ [v])) ≤ 0 := by
  obtain ⟨v, y, hv, e1, h1⟩ := h.ex
  obtain ⟨p, c1, c2, c3, c4, c5⟩ := dk_ex (a := a) n1 n v y hv e1
  obtain ⟨x, u, w, z, rfl⟩ := long_dup c1 (by omega)
  obtain ⟨d1, d2⟩ := cut_rwk c1
  refine ⟨u, w, d2, ?_⟩
  rw [cut_head] at c2
  rw [cut_last] at c3
  have hl : (x ++ u :: z).length = x.length + z.length + 1 := by simp; omega
  have hl2 : x.length + z.length + 1 + w.length + 1 = n + 1 := by simp at c4; omega
  obtain ⟨k, hk⟩ : ∃ k, k = x.length + z.length := ⟨_, rfl⟩
  obtain ⟨b, e2, e3⟩ := dk_le (a := a) n1 k v (x ++ u :: z) d1 c2 c3 (by omega)
  have h2 := h1 k b (by omega) e2
  rw [cut_wr] at c5
  rw [wr_shf]
  have e4 : (u :: (w ++ [u])).length - 1 = n - k := by simp; omega
  rw [e4]
  push_cast at h2
  grind
end
/-- what a round wastes for each step is told by worths and a closed walk -/
theorem pot_le {A : AF} {n : Nat} {w : WF} (hw : ∀ u v, u < n → v < n → u ≠ v → w v ≤ w u + A u v) : ∀ {p : List Nat} {h l : Nat}, RWk n p → p.head? = some h → p.getLast? = some l → w h ≤ w l + wr A p
  | [], _, _, r, _, _ => r.elim
  | [x], h, l, r, h1, h2 => by simp at h1 h2; subst h1 h2; simp [wr]; grind
  | x :: u :: p, h, l, r, h1, h2 => by
    simp at h1; subst h1
    have ih := pot_le hw (h := u) (l := l) r.2.2 rfl (by simpa [List.getLast?_cons_cons] using h2)
    have := hw u x (r.2.2.lt u List.mem_cons_self) r.1 r.2.1
    simp only [wr] at ih ⊢
    grind
def Tg (n : Nat) (A : AF) (w : WF) (u v : Nat) : Prop := u < n ∧ v < n ∧ u ≠ v ∧ w v = w u + A u v
theorem tight_all {A : AF} {n : Nat} {w : WF} (hw : ∀ u v, u < n → v < n → u ≠ v → w v ≤ w u + A u v) : ∀ {p : List Nat} {h l : Nat}, RWk n p → p.head? = some h → p.getLast? = some l → w l + wr A p ≤ w h → Reach (Tg n A w) l h
  | [], _, _, r, _, _, _ => r.elim
  | [x], h, l, r, h1, h2, _ => by simp at h1 h2; subst h1 h2; exact .refl
  | x :: u :: p, h, l, r, h1, h2, ht => by
    simp at h1; subst h1
    have h3 : (u :: p).getLast? = some l := by simpa [List.getLast?_cons_cons] using h2
    have hlt := r.2.2.lt u List.mem_cons_self
    have p1 := pot_le hw (h := u) (l := l) r.2.2 rfl h3
    have p2 := hw u x hlt r.1 r.2.1
    simp only [wr] at ht p1
    exact .step (tight_all hw (h := u) (l := l) r.2.2 rfl h3 (by grind)) ⟨hlt, r.1, r.2.1, by grind⟩
end C
namespace C
open PySem PySem.Spec PyProof.Rows L2 M N B

def enO : Option Int → D
  | none => .none
  | some x => .int x
def rowO (n : Nat) (f : Nat → Option Int) : List D := (List.range n).map fun v => enO (f v)
def df (c : CF) : IF := fun u v => c u v - c u u
def tabO (n m : Nat) (c : CF) : List D := (List.range m).map fun k => .list (rowO n (dk n (df c) k))
theorem notn_O (o : Option Int) : op2 notnT (enO o) .none = some (.bool o.isSome) := by cases o <;> rfl
theorem fold_fm {α : Type} {step : List D → D → Option (List D)} (en : α → D) (f : α → Option D) : ∀ (xs : List α) (acc : List D), (∀ x ∈ xs, ∀ acc : List D, acc.length ≤ 1000 → step acc (en x) = some (acc ++ (f x).toList)) → acc.length + xs.length ≤ 1000 → fold step (xs.map en) acc = some (acc ++ xs.filterMap f)
  | [], acc, _, _ => by simp [fold]
  | x :: r, acc, h, hl => by
    simp only [List.map_cons, fold]
    simp only [List.length_cons] at hl
    rw [h x List.mem_cons_self acc (by omega), Option.bind_some, fold_fm en f r _ (fun y hy acc' h2 => h y (List.mem_cons_of_mem _ hy) acc' h2) (by cases f x <;> simp <;> omega)]
    cases hf : f x <;> simp [hf]
theorem fold_appR {step : List D → D → Option (List D)} (n : Nat) (f : Nat → D) (hn : n ≤ 1000) (h : ∀ i, i < n → ∀ acc : List D, acc.length ≤ 1000 → step acc (.int (i : Int)) = some (acc ++ [f i])) : fold step (rangeD 0 (n : Int)) [] = some ((List.range n).map f) := by
  rw [rangeD_map, fold_app (fun (i : Nat) => PyData.int (i : Int)) f (List.range n) [] (fun x hx acc _ ha => h x (List.mem_range.mp hx) acc ha) (by simpa using hn)]
  rfl
theorem fold_fmR {step : List D → D → Option (List D)} (n : Nat) (f : Nat → Option D) (hn : n ≤ 1000) (h : ∀ i, i < n → ∀ acc : List D, acc.length ≤ 1000 → step acc (.int (i : Int)) = some (acc ++ (f i).toList)) : fold step (rangeD 0 (n : Int)) [] = some ((List.range n).filterMap f) := by
  rw [rangeD_map, fold_fm (fun (i : Nat) => PyData.int (i : Int)) f (List.range n) [] (fun x hx acc ha => h x (List.mem_range.mp hx) acc ha) (by simpa using hn)]
  rfl
theorem ix_rowO {n : Nat} {f : Nat → Option Int} {v : Nat} (h : v < n) : op2 idxT (.list (rowO n f)) (.int (v : Int)) = some (enO (f v)) := by
  unfold rowO; rw [c_ixl, at_range h]
theorem ix_tabO {n m : Nat} {c : CF} {k : Nat} (h : k < m) : op2 idxT (.list (tabO n m c)) (.int (k : Int)) = some (.list (rowO n (dk n (df c) k))) := by
  unfold tabO; rw [c_ixl, at_range h]
theorem ix_tab_last {n m : Nat} {c : CF} : op2 idxT (.list (tabO n (m + 1) c)) (.int (-1)) = some (.list (rowO n (dk n (df c) m))) := by
  unfold tabO; rw [c_ixl, List.range_succ, List.map_append, List.map_singleton, atI_last]
theorem minT_of (xs : List Int) : xif (xbool (op2 M.neT (.list (enI xs)) (.list []))) (xf1 minT (some (.list (enI xs)))) (some .none) = some (enO (minI xs)) := by
  have h : op2 M.neT (.list (enI xs)) (.list []) = some (.bool (!decide (xs = []))) := by
    refine c_ne (n := 1) ?_ (by simp [Pln]) ?_
    · exact pln_ints xs
    · constructor
      · intro h; cases xs with
        | nil => rfl
        | cons x r => simp [enI] at h
      · rintro rfl; rfl
  rw [h]
  cases xs with
  | nil => rfl
  | cons x r =>
    simp only [reduceCtorEq, decide_false, Bool.not_false, c_xbool, c_xif_t, c_xf1]
    simp only [minT, ev_anyl, Option.bind_some]
    rw [show intsOf (enI (x :: r)) = some (x :: r) from intsOf_map _]
    rfl
theorem walks {n : Nat} {c : CF} (h : Cst n c) : P.walks (enCm n c) = some (.list (tabO n (n + 1) c)) := by
  have n1 := h.n1
  have n13 := h.n13
  have sm : smallI (n : Int) := small_of (by omega) (by omega)
  have e0 : op2 mulT (.list [.none]) (.int ((n : Int) - 1)) = some (.list (List.replicate (n - 1) .none)) := by
    have hr : rep62 [PyData.none].length ((n : Int) - 1) := by
      refine ⟨by omega, by omega, ?_⟩
      simp [LIM]; omega
    simp only [op2, ev_mull, hr, if_true, Option.bind_some, T.pure?]
    have : ((n : Int) - 1).toNat = n - 1 := by omega
    rw [this]
    congr 2
    clear this hr
    induction n - 1 with
    | zero => rfl
    | succ m ih => rw [List.replicate_succ, List.replicate_succ, List.flatten_cons, ih]; rfl
  have e1 : [PyData.list (.int 0 :: List.replicate (n - 1) .none)] = tabO n 1 c := by
    simp only [tabO, List.range_one, List.map_singleton, rowO]
    congr 2
    obtain ⟨m, rfl⟩ : ∃ m, n = m + 1 := ⟨n - 1, by omega⟩
    rw [List.range_succ_eq_map, List.map_cons, List.map_map]
    simp only [dk, Nat.add_sub_cancel, if_true, enO]
    congr 1
    refine List.ext_getElem (by simp) fun i h1 h2 => by simp [enO]
  obtain ⟨s, h1, h2⟩ := fold_range (step := fun s d => P.walks_L3 (.int (n : Int)) (enCm n c) s d) (fun i s => s = tabO n (i + 1) c) n (tabO n 1 c) rfl (fun i s hi hs => by
    subst hs
    refine ⟨_, ?_, rfl⟩
    unfold P.walks_L3
    have inner : fold (fun s d => P.walks_L2 (.int (n : Int)) (tabO n (i + 1) c) (enCm n c) s d) (rangeD 0 (n : Int)) [] = some (rowO n (dk n (df c) (i + 1))) := by
      refine fold_appR n _ (by omega) fun v hv acc ha => ?_
      unfold P.walks_L2
      have inn : fold (fun s d => P.walks_L1 (.int (v : Int)) (tabO n (i + 1) c) (enCm n c) s d) (rangeD 0 (n : Int)) [] = some (enI ((List.range n).filterMap fun u => if u ≠ v then (dk n (df c) i u).map fun x => x + df c u v else none)) := by
        rw [fold_fmR n (fun u => (if u ≠ v then (dk n (df c) i u).map fun x => x + df c u v else none).map PyData.int) (by omega) fun u hu acc ha => ?_]
        · unfold enI; rw [List.map_filterMap]
        · unfold P.walks_L1
          simp only [c_xop, c_nei, c_xbool, c_xneg, ix_tab_last, ix_rowO hu, notn_O, c_xand, Int.natCast_inj]
          by_cases huv : u = v
          · subst huv
            simp
          · simp only [huv, decide_false, Bool.not_false, c_xif_t]
            cases hd : dk n (df c) i u with
            | none => simp
            | some x =>
              simp only [Option.isSome_some, c_xbool, c_xif_t, enO, c_xop, ix_Cm hu, ix_rowC hv, ix_rowC hu, c_add, c_sub, Option.bind_some, apd_of ha, huv, ne_eq, not_false_eq_true, if_true, Option.map_some, Option.toList_some, df]
              rw [show x + c u v - c u u = x + (c u v - c u u) by omega]
      simp only [c_xseq0, Option.bind_some, c_irng1, sm, if_true, inn, c_xop, c_xlst, Option.map_some, minT_of, apd_of ha]
      rfl
    simp only [c_xseq0, Option.bind_some, c_irng1, sm, if_true, inner]
    rw [apd_of (by simp [tabO]; omega)]
    simp only [Option.bind_some]
    unfold tabO
    rw [List.range_succ (n := i + 1), List.map_append]
    rfl)
  unfold P.walks
  simp only [c_xf1, len_Cm, Option.bind_some, ev_pure, c_xop, c_xlst, c_xseq1, c_xseq0, Option.map_some, c_sub, e0, c_addl, List.length_cons, List.length_nil, List.length_replicate]
  rw [if_pos (by unfold LIM; omega)]
  simp only [List.cons_append, List.nil_append, c_xseq1, c_xseq0, Option.map_some, Option.bind_some, c_irng1, sm, if_true, e1, h1, h2]
end C
namespace C
open PySem PySem.Spec PyProof.Rows L2 M N B

theorem dk_bound {n : Nat} {c : CF} (h : Cst n c) : ∀ (k v : Nat) (x : Int), v < n → dk n (df c) k v = some x → x.natAbs ≤ k * 6000000000000
  | 0, v, x, hv, e => by
    simp only [dk] at e
    split at e
    · cases e; simp
    · cases e
  | k + 1, v, x, hv, e => by
    simp only [dk] at e
    obtain ⟨h1, _⟩ := minI_spec e
    rw [List.mem_filterMap] at h1
    obtain ⟨u, hu, h2⟩ := h1
    have hu := List.mem_range.mp hu
    split at h2
    · rw [Option.map_eq_some_iff] at h2
      obtain ⟨y, e1, rfl⟩ := h2
      have ih := dk_bound h k u y hu e1
      have a1 := h.lo u v hu hv
      have a2 := h.hi u v hu hv
      have a3 := h.lo u u hu hu
      have a4 := h.hi u u hu hu
      simp only [df]
      rw [Nat.add_mul]
      omega
    · cases h2
theorem isn_Q (q : Rat) : op2 isnT (enQ q) .none = some (.bool false) := rfl
theorem isn_N : op2 isnT .none .none = some (.bool true) := rfl
/-- the greatest of (y - d k v) / (n - k), k below i -/
structure MxI (n : Nat) (c : CF) (v : Nat) (y : Int) (i : Nat) (q : Rat) : Prop where
  sz : SzQ 100 q
  ex : ∃ k x, k < i ∧ dk n (df c) k v = some x ∧ q = Rat.divInt (y - x) ((n : Int) - k)
  all : ∀ k x, k < i → dk n (df c) k v = some x → Rat.divInt (y - x) ((n : Int) - k) ≤ q
theorem worst {n : Nat} {c : CF} (h : Cst n c) {v : Nat} (hv : v < n) {y : Int} (hy : dk n (df c) n v = some y) :
    ∃ s, fold (fun s d => P.least_mean_L1 (.list (tabO n (n + 1) c)) (.int (v : Int)) (.int (n : Int)) s d) (rangeD 0 (n : Int)) .none = some s ∧ ((s = .none ∧ ∀ k, k < n → dk n (df c) k v = none) ∨ ∃ q, s = enQ q ∧ MxI n c v y n q) := by
  have n13 := h.n13
  have by' := dk_bound h n v y hv hy
  refine fold_range (step := fun s d => P.least_mean_L1 (.list (tabO n (n + 1) c)) (.int (v : Int)) (.int (n : Int)) s d) (fun i s => (s = .none ∧ ∀ k, k < i → dk n (df c) k v = none) ∨ ∃ q, s = enQ q ∧ MxI n c v y i q) n _ (.inl ⟨rfl, by simp⟩) fun i s hi hs => ?_
  unfold P.least_mean_L1
  simp only [c_xop, ix_tabO (by omega : i < n + 1), ix_tabO (by omega : n < n + 1), ix_rowO hv, notn_O, c_xbool, hy, enO, c_sub]
  cases hd : dk n (df c) i v with
  | none =>
    refine ⟨s, by simp, ?_⟩
    rcases hs with ⟨h1, h2⟩ | ⟨q, h1, h2⟩
    · exact .inl ⟨h1, fun k hk => by
        rcases Nat.lt_succ_iff_lt_or_eq.mp hk with z | rfl
        · exact h2 k z
        · exact hd⟩
    · refine .inr ⟨q, h1, h2.sz, ?_, fun k x hk e => ?_⟩
      · obtain ⟨k, x, z, z2⟩ := h2.ex
        exact ⟨k, x, by omega, z2⟩
      · rcases Nat.lt_succ_iff_lt_or_eq.mp hk with z | rfl
        · exact h2.all k x z e
        · rw [hd] at e; cases e
  | some x =>
    have bx := dk_bound h i v x hv hd
    have hb0 : ((n : Int) - i) ≠ 0 := by omega
    have sb : Sz 10 ((n : Int) - i) := by unfold Sz; omega
    have st : Sz 60 (y - x) := by
      have e1 : n * 6000000000000 ≤ 13 * 6000000000000 := Nat.mul_le_mul_right _ n13
      have e2 : i * 6000000000000 ≤ 13 * 6000000000000 := Nat.mul_le_mul_right _ (by omega)
      unfold Sz; omega
    have fr := fr_div (a := y - x) hb0 (sb.mono (by decide))
    have sq : SzQ 100 (Rat.divInt (y - x) ((n : Int) - i)) := szq_divInt hb0 (st.mono (by decide)) (sb.mono (by decide))
    simp only [Option.isSome_some, c_xif_t, enO, c_sub, c_ap2, fr, Option.bind_some, c_notni, c_xbool]
    rcases hs with ⟨h1, h2⟩ | ⟨q, h1, h2⟩
    · subst h1
      refine ⟨enQ (Rat.divInt (y - x) ((n : Int) - i)), by simp only [isn_N, c_xbool, c_xor, c_xif_t, Option.bind_some], .inr ⟨_, rfl, sq, ⟨i, x, by omega, hd, rfl⟩, fun k x' hk e => ?_⟩⟩
      rcases Nat.lt_succ_iff_lt_or_eq.mp hk with z | rfl
      · rw [h2 k z] at e; cases e
      · rw [hd] at e; cases e; exact Rat.le_refl
    · subst h1
      have il := p_isless (h2.sz.mono (by decide : 100 ≤ 100000)) (sq.mono (by decide : 100 ≤ 100000))
      by_cases hlt : q < Rat.divInt (y - x) ((n : Int) - i)
      · refine ⟨enQ (Rat.divInt (y - x) ((n : Int) - i)), by simp only [isn_Q, c_xbool, c_xor, c_xif_f, il, hlt, decide_true, c_xif_t, Option.bind_some], .inr ⟨_, rfl, sq, ⟨i, x, by omega, hd, rfl⟩, fun k x' hk e => ?_⟩⟩
        rcases Nat.lt_succ_iff_lt_or_eq.mp hk with z | rfl
        · have := h2.all k x' z e; grind
        · rw [hd] at e; cases e; exact Rat.le_refl
      · refine ⟨enQ q, by simp only [isn_Q, c_xbool, c_xor, c_xif_f, il, hlt, decide_false, c_xif_f, Option.bind_some], .inr ⟨q, rfl, h2.sz, ?_, fun k x' hk e => ?_⟩⟩
        · obtain ⟨k, x, z, z2⟩ := h2.ex
          exact ⟨k, x, by omega, z2⟩
        · rcases Nat.lt_succ_iff_lt_or_eq.mp hk with z | rfl
          · exact h2.all k x' z e
          · rw [hd] at e; cases e; grind
/-- a walk of so many steps -/
theorem alt_walk {n : Nat} (n2 : 2 ≤ n) : ∀ k : Nat, ∃ p v, RWk n p ∧ p.head? = some v ∧ v < 2 ∧ p.getLast? = some 0 ∧ p.length = k + 1
  | 0 => ⟨[0], 0, (by omega : 0 < n), rfl, by omega, rfl, rfl⟩
  | k + 1 => by
    obtain ⟨p, v, h1, h2, h3, h4, h5⟩ := alt_walk n2 k
    match p, h2 with
    | w :: r, h2 =>
      simp at h2; subst h2
      exact ⟨(1 - w) :: w :: r, 1 - w, ⟨by omega, by omega, h1⟩, rfl, by omega, by simpa [List.getLast?_cons_cons] using h4, by simpa using h5⟩
theorem dk_shorter {n : Nat} {a : IF} (n1 : 1 ≤ n) {v : Nat} {y : Int} (hv : v < n) (e : dk n a n v = some y) : ∃ k x, k < n ∧ dk n a k v = some x := by
  obtain ⟨p, c1, c2, c3, c4, c5⟩ := dk_ex (a := a) n1 n v y hv e
  obtain ⟨x, u, w, z, rfl⟩ := long_dup c1 (by omega)
  obtain ⟨d1, d2⟩ := cut_rwk c1
  rw [cut_head] at c2
  rw [cut_last] at c3
  obtain ⟨b, e2, e3⟩ := dk_le (a := a) n1 (x.length + z.length) v (x ++ u :: z) d1 c2 c3 (by simp; omega)
  exact ⟨_, b, by simp at c4; omega, e2⟩
theorem divInt_mean {n k : Nat} (hk : k < n) (t : Int) (q : Rat) : (Rat.divInt t ((n : Int) - k) ≤ q ↔ (t : Rat) ≤ q * ((n - k : Nat) : Rat)) ∧ (q ≤ Rat.divInt t ((n : Int) - k) ↔ q * ((n - k : Nat) : Rat) ≤ (t : Rat)) := by
  have e : ((n : Int) - k) = ((n - k : Nat) : Int) := by omega
  have hp : (0 : Rat) < ((n - k : Nat) : Rat) := by exact_mod_cast (by omega : 0 < n - k)
  rw [e, Rat.divInt_eq_div]
  have e2 : (((n - k : Nat) : Int) : Rat) = ((n - k : Nat) : Rat) := rfl
  rw [e2]
  generalize ((n - k : Nat) : Rat) = m at *
  have h1 : (t : Rat) / m * m = t := by grind
  constructor
  · constructor
    · intro h; have := Rat.mul_le_mul_of_nonneg_right h (by grind : 0 ≤ m); grind
    · intro h
      apply Classical.byContradiction; intro hc
      have : q < (t : Rat) / m := by grind
      have := Rat.mul_lt_mul_of_pos_right this hp
      grind
  · constructor
    · intro h; have := Rat.mul_le_mul_of_nonneg_right h (by grind : 0 ≤ m); grind
    · intro h
      apply Classical.byContradiction; intro hc
      have : (t : Rat) / m < q := by grind
      have := Rat.mul_lt_mul_of_pos_right this hp
      grind
theorem least_mean {n : Nat} {c : CF} (h : Cst n c) (n2 : 2 ≤ n) : ∃ μ, P.least_mean (enCm n c) = some (enQ μ) ∧ SzQ 100 μ ∧ IsMean n (df c) μ := by
  have n13 := h.n13
  have sm : smallI (n : Int) := small_of (by omega) (by omega)
  have key := fold_range (step := fun s d => P.least_mean_L2 (.list (tabO n (n + 1) c)) (.int (n : Int)) s d) (fun i s => (s = .none ∧ ∀ v, v < i → dk n (df c) n v = none) ∨ ∃ q, s = enQ q ∧ (∃ v y, v < i ∧ dk n (df c) n v = some y ∧ MxI n c v y n q) ∧ ∀ v y, v < i → dk n (df c) n v = some y → ∃ q', MxI n c v y n q' ∧ q ≤ q') n .none (.inl ⟨rfl, by simp⟩) (fun i s hi hs => by
    unfold P.least_mean_L2
    simp only [c_xop, ix_tabO (by omega : n < n + 1), ix_rowO hi, notn_O, c_xbool]
    cases hd : dk n (df c) n i with
    | none =>
      refine ⟨s, by simp, ?_⟩
      rcases hs with ⟨h1, h2⟩ | ⟨q, h1, ⟨v, y, z1, z2, z3⟩, h3⟩
      · exact .inl ⟨h1, fun k hk => by
          rcases Nat.lt_succ_iff_lt_or_eq.mp hk with z | rfl
          · exact h2 k z
          · exact hd⟩
      · refine .inr ⟨q, h1, ⟨v, y, by omega, z2, z3⟩, fun v y hv e => ?_⟩
        rcases Nat.lt_succ_iff_lt_or_eq.mp hv with z | rfl
        · exact h3 v y z e
        · rw [hd] at e; cases e
    | some y =>
      obtain ⟨w, w1, w2⟩ := worst h hi hd
      obtain ⟨q, rfl, mq⟩ : ∃ q, w = enQ q ∧ MxI n c i y n q := by
        rcases w2 with ⟨_, z⟩ | z
        · obtain ⟨k, x, hk, e⟩ := dk_shorter (by omega) hi hd
          rw [z k hk] at e; cases e
        · exact z
      simp only [Option.isSome_some, c_xif_t, Option.bind_some, c_irng1, sm, if_true, w1]
      rcases hs with ⟨h1, h2⟩ | ⟨r, h1, ⟨v, y', z1, z2, z3⟩, h3⟩
      · subst h1
        refine ⟨enQ q, by simp only [isn_N, c_xbool, c_xor, c_xif_t, Option.bind_some], .inr ⟨q, rfl, ⟨i, y, by omega, hd, mq⟩, fun v y' hv e => ?_⟩⟩
        rcases Nat.lt_succ_iff_lt_or_eq.mp hv with z | rfl
        · rw [h2 v z] at e; cases e
        · rw [hd] at e; cases e; exact ⟨q, mq, Rat.le_refl⟩
      · subst h1
        have il := p_isless (mq.sz.mono (by decide : 100 ≤ 100000)) (z3.sz.mono (by decide : 100 ≤ 100000))
        by_cases hlt : q < r
        · refine ⟨enQ q, by simp only [isn_Q, c_xbool, c_xor, c_xif_f, il, hlt, decide_true, c_xif_t, c_ap2, Option.bind_some], .inr ⟨q, rfl, ⟨i, y, by omega, hd, mq⟩, fun v y' hv e => ?_⟩⟩
          rcases Nat.lt_succ_iff_lt_or_eq.mp hv with z | rfl
          · obtain ⟨q', a1, a2⟩ := h3 v y' z e
            exact ⟨q', a1, by grind⟩
          · rw [hd] at e; cases e; exact ⟨q, mq, Rat.le_refl⟩
        · refine ⟨enQ r, by simp only [isn_Q, c_xbool, c_xor, c_xif_f, il, hlt, decide_false, c_xif_f, c_ap2, Option.bind_some], .inr ⟨r, rfl, ⟨v, y', by omega, z2, z3⟩, fun v y' hv e => ?_⟩⟩
          rcases Nat.lt_succ_iff_lt_or_eq.mp hv with z | rfl
          · exact h3 v y' z e
          · rw [hd] at e; cases e; exact ⟨q, mq, by grind⟩)
  obtain ⟨s, k1, k2⟩ := key
  obtain ⟨μ, rfl, ⟨v, y, hv, e1, m1⟩, m2⟩ : ∃ q, s = enQ q ∧ (∃ v y, v < n ∧ dk n (df c) n v = some y ∧ MxI n c v y n q) ∧ ∀ v y, v < n → dk n (df c) n v = some y → ∃ q', MxI n c v y n q' ∧ q ≤ q' := by
    rcases k2 with ⟨_, z⟩ | z
    · obtain ⟨p, v, b1, b2, b3, b4, b5⟩ := alt_walk n2 n
      obtain ⟨x, e, _⟩ := dk_le (a := df c) (by omega) n v p b1 b2 b4 b5
      rw [z v (by omega)] at e; cases e
    · exact z
  refine ⟨μ, ?_, m1.sz, ⟨⟨v, y, hv, e1, fun k x hk e => (divInt_mean hk _ _).1.mp (m1.all k x hk e)⟩, fun v y hv e => ?_⟩⟩
  · unfold P.least_mean
    simp only [c_xf1, len_Cm, Option.bind_some, ev_pure, c_ap1, walks h, c_irng1, sm, if_true, k1]
  · obtain ⟨q', a1, a2⟩ := m2 v y hv e
    obtain ⟨k, x, hk, e2, e3⟩ := a1.ex
    exact ⟨k, x, hk, e2, (divInt_mean hk _ _).2.mp (by rw [← e3]; exact a2)⟩
end C
namespace C
open PySem PySem.Spec PyProof.Rows L2 M N B

theorem int_Q (a : Int) : PyData.tuple [.int a, .int 1] = enQ (a : Rat) := rfl
structure LI (n : Nat) (A : AF) (t : Nat) (w : WF) : Prop where
  le : ∀ p v, RWk n p → p.head? = some v → p.length ≤ t + 1 → w v ≤ wr A p
  ex : ∀ v, v < n → ∃ p, RWk n p ∧ p.head? = some v ∧ w v = wr A p
structure LJ (n : Nat) (A : AF) (t : Nat) (S : Nat → Nat → Prop) (w : WF) : Prop where
  li : LI n A t w
  pr : ∀ u v, S u v → u ≠ v → u < n → v < n → ∀ r, RWk n (u :: r) → (u :: r).length ≤ t + 1 → w v ≤ A u v + wr A (u :: r)
section
variable {n : Nat} {A : AF} {t : Nat} {w : WF} {S : Nat → Nat → Prop}
theorem LJ.step (h : LJ n A t S w) {u v : Nat} (hu : u < n) (hv : v < n) : LJ n A t (fun x y => S x y ∨ (x = u ∧ y = v)) (if u ≠ v ∧ w u + A u v < w v then updW w v (w u + A u v) else w) := by
  by_cases hc : u ≠ v ∧ w u + A u v < w v
  · rw [if_pos hc]
    have dec : ∀ x, updW w v (w u + A u v) x ≤ w x := fun x => by
      unfold updW; split
      · rename_i e; subst e; grind
      · exact Rat.le_refl
    refine ⟨⟨fun p x hp hx hl => Rat.le_trans (dec x) (h.li.le p x hp hx hl), fun x hx => ?_⟩, fun x y hs hxy hx hy r hr hl => ?_⟩
    · by_cases e : x = v
      · subst e
        obtain ⟨p, p1, p2, p3⟩ := h.li.ex u hu
        match p, p2 with
        | z :: r, p2 =>
          simp at p2; subst p2
          exact ⟨x :: z :: r, ⟨hv, hc.1, p1⟩, rfl, by rw [updW_same, p3]; simp only [wr]; grind⟩
      · rw [updW_ne e]; exact h.li.ex x hx
    · rcases hs with hs | ⟨rfl, rfl⟩
      · exact Rat.le_trans (dec y) (h.pr x y hs hxy hx hy r hr hl)
      · rw [updW_same]
        have := h.li.le (x :: r) x hr rfl hl
        grind
  · rw [if_neg hc]
    refine ⟨h.li, fun x y hs hxy hx hy r hr hl => ?_⟩
    rcases hs with hs | ⟨rfl, rfl⟩
    · exact h.pr x y hs hxy hx hy r hr hl
    · have := h.li.le (x :: r) x hr rfl hl
      have h2 : ¬ (w x + A x y < w y) := fun z => hc ⟨hxy, z⟩
      grind
theorem LJ.congr {S' : Nat → Nat → Prop} (h : LJ n A t S w) (hs : ∀ u v, u < n → v < n → S' u v → S u v) : LJ n A t S' w := ⟨h.li, fun u v s hne hu hv r hr hl => h.pr u v (hs u v hu hv s) hne hu hv r hr hl⟩
theorem LJ.turn (h : LJ n A t S w) (hs : ∀ u v, u < n → v < n → S u v) : LI n A (t + 1) w := ⟨fun p v hp hv hl => by
  match p, hp, hv with
  | [x], hp, hv => exact h.li.le [x] v hp hv (by simp)
  | x :: u :: r, hp, hv =>
    simp at hv; subst hv
    have hu := hp.2.2.lt u List.mem_cons_self
    simp only [wr]
    exact h.pr u x (hs u x hu hp.1) hp.2.1 hu hp.1 r hp.2.2 (by simpa using hl), h.li.ex⟩
theorem LI.fit (h : LI n A n w) (hneg : ∀ v y, RWk n (v :: (y ++ [v])) → 0 ≤ wr A (v :: (y ++ [v]))) (u v : Nat) (hu : u < n) (hv : v < n) (hne : u ≠ v) : w v ≤ w u + A u v := by
  obtain ⟨p, p1, p2, p3⟩ := h.ex u hu
  match p, p2 with
  | z :: r, p2 =>
    simp at p2; subst p2
    obtain ⟨q, q1, q2, q3, q4, q5⟩ := reduce hneg _ (Nat.le_refl _) (p := v :: z :: r) ⟨hv, hne, p1⟩
    have := h.le q v q1 (by rw [q2]; rfl) (by omega)
    simp only [wr] at q5
    grind
end
theorem wr_int (a : IF) : ∀ p : List Nat, ∃ z : Int, wr (rt a) p = z
  | [] => ⟨0, by simp [wr]⟩
  | [_] => ⟨0, by simp [wr]⟩
  | v :: u :: r => by
    obtain ⟨z, h⟩ := wr_int a (u :: r)
    exact ⟨a u v + z, by simp only [wr, rt] at h ⊢; rw [h]; push_cast; rfl⟩
theorem abs_le_of_sz {k : Nat} {q : Rat} (h : SzQ k q) : -((2 ^ k : Nat) : Rat) ≤ q ∧ q ≤ ((2 ^ k : Nat) : Rat) := by
  have hd : (1 : Int) ≤ (q.den : Int) := by have := q.den_pos; omega
  have h1 : q.num.natAbs < 2 ^ k := h.1
  obtain ⟨m, hm⟩ : ∃ m : Nat, 2 ^ k = m := ⟨_, rfl⟩
  rw [hm] at h1 ⊢
  have e1 : ((m : Nat) : Rat).num = (m : Int) := by simp
  have e2 : ((m : Nat) : Rat).den = 1 := by simp
  have e3 : (-((m : Nat) : Rat)).num = -(m : Int) := by rw [Rat.neg_num, e1]
  have e4 : (-((m : Nat) : Rat)).den = 1 := by rw [Rat.neg_den, e2]
  have h2 : (m : Int) * 1 ≤ (m : Int) * (q.den : Int) := Int.mul_le_mul_of_nonneg_left hd (by omega)
  constructor
  · rw [Rat.le_iff, e3, e4]
    have : -(m : Int) * (q.den : Int) = -((m : Int) * (q.den : Int)) := by grind
    rw [this]; omega
  · rw [Rat.le_iff, e1, e2]; omega
def MX : Nat := 2 ^ 101
theorem shf_lo {n : Nat} {c : CF} (h : Cst n c) {μ : Rat} (hm : SzQ 100 μ) (u v : Nat) (hu : u < n) (hv : v < n) : -(MX : Rat) ≤ shf (df c) μ u v := by
  have h1 := (abs_le_of_sz hm).2
  have a1 := h.lo u v hu hv
  have a4 := h.hi u u hu hu
  have h1' : μ ≤ (((2 ^ 100 : Nat) : Int) : Rat) := h1
  have h2 : ((-6000000000000 : Int) : Rat) ≤ ((df c u v : Int) : Rat) := Rat.intCast_le_intCast.mpr (by unfold df; omega)
  have h3 : (((2 ^ 100 : Nat) : Int) : Rat) + ((6000000000000 : Int) : Rat) ≤ ((MX : Int) : Rat) := by rw [← Rat.intCast_add]; exact Rat.intCast_le_intCast.mpr (by unfold MX; decide)
  have h4 : ((-6000000000000 : Int) : Rat) = -((6000000000000 : Int) : Rat) := by rw [← Rat.intCast_neg]
  show -((MX : Int) : Rat) ≤ _
  rw [h4] at h2
  generalize (((2 ^ 100 : Nat) : Int) : Rat) = a at *
  generalize ((6000000000000 : Int) : Rat) = b at *
  unfold shf
  grind
theorem lift_sz {n : Nat} {c : CF} (h : Cst n c) {μ : Rat} (hm : SzQ 100 μ) (hneg : ∀ v y, RWk n (v :: (y ++ [v])) → 0 ≤ wr (shf (df c) μ) (v :: (y ++ [v]))) {t : Nat} {w : WF} (hi : LI n (shf (df c) μ) t w) {v : Nat} (hv : v < n) : SzQ 300 (w v) := by
  have n13 := h.n13
  have up : w v ≤ 0 := by have := hi.le [v] v hv rfl (by simp); simpa [wr] using this
  obtain ⟨p, p1, p2, p3⟩ := hi.ex v hv
  obtain ⟨q, q1, q2, q3, q4, q5⟩ := reduce hneg _ (Nat.le_refl _) p1
  have lo1 := wr_lo (fun u v hu hv => shf_lo h hm u v hu hv) (by exact_mod_cast Nat.zero_le MX) q1
  have lo : -((13 * MX : Nat) : Rat) ≤ w v := by
    have e : (q.length : Rat) * (MX : Rat) ≤ ((13 * MX : Nat) : Rat) := by
      have : q.length * MX ≤ 13 * MX := Nat.mul_le_mul_right _ (by omega)
      exact_mod_cast this
    grind
  obtain ⟨z, hz⟩ := wr_int (df c) p
  rw [wr_shf, hz] at p3
  obtain ⟨m, hmm⟩ : ∃ m : Nat, p.length - 1 = m := ⟨_, rfl⟩
  rw [hmm] at p3
  have hd := den_rat μ
  have nd := num_den μ
  -- w v = (z * den - m * num) / den
  have e1 : w v = Rat.divInt (z * μ.den - m * μ.num) μ.den := by
    rw [Rat.divInt_eq_div, p3]
    push_cast
    grind
  have sd : Sz 100 (μ.den : Int) := hm.2
  have key : (z * μ.den - m * μ.num).natAbs ≤ 13 * MX * μ.den := by
    have e2 : w v * (μ.den : Rat) = ((z * μ.den - m * μ.num : Int) : Rat) := by
      rw [p3]; push_cast; grind
    have hp : (0 : Rat) ≤ (μ.den : Rat) := by exact_mod_cast Nat.zero_le _
    have l1 := Rat.mul_le_mul_of_nonneg_right lo hp
    have l2 := Rat.mul_le_mul_of_nonneg_right up hp
    rw [e2] at l1 l2
    have l1' : (-((13 * MX * μ.den : Nat) : Int) : Int) ≤ z * μ.den - m * μ.num := by
      have : ((-((13 * MX * μ.den : Nat) : Int) : Int) : Rat) ≤ ((z * μ.den - m * μ.num : Int) : Rat) := by
        push_cast at l1 ⊢; grind
      exact_mod_cast this
    have l2' : z * μ.den - m * μ.num ≤ 0 := by
      have : ((z * μ.den - m * μ.num : Int) : Rat) ≤ ((0 : Int) : Rat) := by push_cast at l2 ⊢; grind
      exact_mod_cast this
    omega
  rw [e1]
  refine szq_divInt (den_ne0 μ) ?_ (sd.mono (by decide))
  have hdn : μ.den < 2 ^ 100 := by have := hm.2; unfold Sz at this; simpa using this
  unfold Sz
  have : 13 * MX * μ.den ≤ 13 * MX * 2 ^ 100 := Nat.mul_le_mul_left _ (by omega)
  have : 13 * MX * 2 ^ 100 < 2 ^ 300 := by unfold MX; exact Nat.le_of_ble_eq_true rfl
  omega
theorem lifted {n : Nat} {c : CF} (h : Cst n c) {μ : Rat} (hm : SzQ 100 μ) (hneg : ∀ v y, RWk n (v :: (y ++ [v])) → 0 ≤ wr (shf (df c) μ) (v :: (y ++ [v]))) :
    ∃ w : WF, P.lifted (enCm n c) (enQ μ) = some (.list (wl n w)) ∧ LI n (shf (df c) μ) n w := by
  have n13 := h.n13
  have n1 := h.n1
  have sm : smallI (n : Int) := small_of (by omega) (by omega)
  have l0 : LI n (shf (df c) μ) 0 (fun _ => 0) := ⟨fun p v hp hv hl => by
    match p, hl with
    | [x], _ => simp [wr]
    | [], _ => exact hp.elim, fun v hv => ⟨[v], hv, rfl, by simp [wr]⟩⟩
  have step : ∀ (t : Nat) (S : Nat → Nat → Prop) (w : WF) (u v : Nat), u < n → v < n → LJ n (shf (df c) μ) t S w → ∃ s', P.lifted_L1 (.int (u : Int)) (enCm n c) (enQ μ) (wl n w) (.int (v : Int)) = some s' ∧ ∃ w', s' = wl n w' ∧ LJ n (shf (df c) μ) t (fun x y => S x y ∨ (x = u ∧ y = v)) w' := fun t S w u v hu hv hj => by
    have su := lift_sz h hm hneg hj.li hu
    have sv := lift_sz h hm hneg hj.li hv
    have a1 := h.lo u v hu hv
    have a2 := h.hi u v hu hv
    have a3 := h.lo u u hu hu
    have a4 := h.hi u u hu hu
    have sa : SzQ 50 ((c u v - c u u : Int) : Rat) := szq_ofInt (by unfold Sz; omega) (by decide)
    have s1 := szq_add su sa
    have s2 := szq_sub s1 hm
    have eA : w u + ((c u v - c u u : Int) : Rat) - μ = w u + shf (df c) μ u v := by unfold shf df; grind
    have il := p_isless (s2.mono (by decide : _ ≤ 100000)) (sv.mono (by decide : _ ≤ 100000))
    rw [eA] at il
    refine ⟨_, ?_, _, rfl, hj.step hu hv⟩
    unfold P.lifted_L1
    simp only [c_xop, ix_wl hu, ix_wl hv, ix_Cm hu, ix_rowC hu, ix_rowC hv, c_sub, c_xtup, c_xseq1, c_xseq0, Option.map_some, int_Q, c_ap2, p_plus (su.mono (by decide)) (sa.mono (by decide)), p_minus (s1.mono (by decide)) (hm.mono (by decide)), Option.bind_some, c_nei, c_xbool, c_xand, eA, il, Int.natCast_inj]
    by_cases huv : u = v
    · subst huv; simp
    · by_cases hlt : w u + shf (df c) μ u v < w v
      · simp only [huv, hlt, decide_true, decide_false, Bool.not_false, c_xif_t, set_wl hv, Option.bind_some, ne_eq, not_false_eq_true, and_self, if_true]
      · simp only [huv, hlt, decide_false, Bool.not_false, c_xif_t, c_xif_f, Option.bind_some, and_false, if_false]
  have turn : ∀ (t : Nat) (w : WF), LI n (shf (df c) μ) t w → ∃ s', P.lifted_L3 (.int (n : Int)) (enCm n c) (enQ μ) (wl n w) (.int (t : Int)) = some s' ∧ ∃ w', s' = wl n w' ∧ LI n (shf (df c) μ) (t + 1) w' := fun t w hi => by
    obtain ⟨s, k1, w', k2, k3⟩ := fold_range (step := fun s d => P.lifted_L2 (.int (n : Int)) (enCm n c) (enQ μ) s d) (fun u s => ∃ w', s = wl n w' ∧ LJ n (shf (df c) μ) t (fun x y => x < u) w') n (wl n w) ⟨w, rfl, hi, fun u v s => by omega⟩ (fun u s hu hs => by
      obtain ⟨w1, rfl, hj⟩ := hs
      obtain ⟨s2, m1, w2, m2, m3⟩ := fold_range (step := fun s d => P.lifted_L1 (.int (u : Int)) (enCm n c) (enQ μ) s d) (fun v s => ∃ w', s = wl n w' ∧ LJ n (shf (df c) μ) t (fun x y => x < u ∨ (x = u ∧ y < v)) w') n (wl n w1) ⟨w1, rfl, hj.congr fun x y _ _ z => by omega⟩ (fun v s hv hs => by
        obtain ⟨w2, rfl, hj2⟩ := hs
        obtain ⟨s', b1, w3, b2, b3⟩ := step t _ w2 u v hu hv hj2
        exact ⟨s', b1, w3, b2, b3.congr fun x y _ _ z => by omega⟩)
      refine ⟨s2, ?_, w2, m2, m3.congr fun x y hx hy z => by omega⟩
      unfold P.lifted_L2
      simp only [c_irng1, sm, if_true, Option.bind_some, m1])
    refine ⟨s, ?_, w', k2, k3.turn fun x y hx hy => hx⟩
    unfold P.lifted_L3
    simp only [c_irng1, sm, if_true, Option.bind_some, k1]
  obtain ⟨s, k1, w', k2, k3⟩ := fold_range (step := fun s d => P.lifted_L3 (.int (n : Int)) (enCm n c) (enQ μ) s d) (fun t s => ∃ w', s = wl n w' ∧ LI n (shf (df c) μ) t w') n (wl n fun _ => 0) ⟨_, rfl, l0⟩ (fun t s ht hs => by
    obtain ⟨w1, rfl, hi⟩ := hs
    exact turn t w1 hi)
  refine ⟨w', ?_, k3⟩
  have hr : rep62 [enQ 0].length (n : Int) := by
    refine ⟨by omega, by omega, ?_⟩
    simp [LIM]; omega
  unfold P.lifted
  simp only [c_xf1, len_Cm, Option.bind_some, ev_pure, c_xlst, c_xtup, c_xseq1, c_xseq0, Option.map_some, zero_Q, rep_of hr, Int.toNat_natCast, rep_wl, c_irng1, sm, if_true, k1, k2]
end C
namespace C
open PySem PySem.Spec PyProof.Rows L2 M N B

/-- what the dearest round wastes: a round that does, worths that show that none wastes more -/
structure DearOk (n : Nat) (c : CF) (x : Rat) (p : List Nat) (w : WF) : Prop where
  rnd : IsRnd n p
  wst : (((owns c p).sum - (steps c p).sum : Int) : Rat) = x * (p.length : Rat)
  fit : ∀ i j, i < n → j < n → i ≠ j → w j ≤ w i + ((c i j - c i i : Int) : Rat) + x
  szx : SzQ 110 x
  szw : ∀ i, i < n → SzQ 300 (w i)
def dearD (x : Rat) (p : List Nat) (n : Nat) (w : WF) : D := .tuple [enQ x, .list (enI (natI p)), .list (wl n w)]
def tgB (A : AF) (w : WF) (u v : Nat) : Bool := decide (u ≠ v) && decide (w v = w u + A u v)
theorem Tg_iff {n : Nat} {A : AF} {w : WF} (u v : Nat) : Tg n A w u v ↔ Wb n (tgB A w) u v := by
  unfold Tg Wb tgB; simp
/-- along tight steps worths tell what a way comes to -/
theorem tight_sum {n : Nat} {c : CF} {μ : Rat} {w : WF} : ∀ {p : List Nat} {a b : Nat}, Steps (Wb n (tgB (shf (df c) μ) w)) p → p.head? = some a → p.getLast? = some b → w b = w a + (sumS c p : Rat) - ((p.length - 1 : Nat) : Rat) * μ
  | [], _, _, _, h, _ => by simp at h
  | [x], a, b, _, h1, h2 => by simp at h1 h2; subst h1 h2; simp [sumS]; grind
  | x :: y :: r, a, b, st, h1, h2 => by
    simp at h1; subst h1
    have ih := tight_sum (a := y) (b := b) st.2 rfl (by simpa [List.getLast?_cons_cons] using h2)
    obtain ⟨_, _, t⟩ := st.1
    unfold tgB at t
    simp only [Bool.and_eq_true, decide_eq_true_eq] at t
    have t2 : w y = w x + shf (df c) μ x y := t.2
    unfold shf df at t2
    rw [ih, t2]
    simp only [sumS, List.length_cons, Nat.add_sub_cancel]
    push_cast
    grind
set_option maxHeartbeats 1000000 in
theorem dearest {m : Nat} {bk : List Buy} (v : ValidBook m bk) (h13 : bk.length ≤ 13) (n2 : 2 ≤ bk.length) : ∃ x p w, P.dearest (enBk bk) = some (dearD x p bk.length w) ∧ DearOk bk.length (cM bk) x p w := by
  have hc := v.cst h13
  obtain ⟨n, hn⟩ : ∃ n, bk.length = n := ⟨_, rfl⟩
  obtain ⟨c, hcc⟩ : ∃ c, cM bk = c := ⟨_, rfl⟩
  rw [hn, hcc] at hc
  rw [hn] at n2 h13
  have sm : smallI (n : Int) := small_of (by omega) (by omega)
  obtain ⟨μ, m1, sμ, m2⟩ := least_mean hc n2
  have hneg := fun v y hcl => m2.no_less (by omega) (fun u v hu hv => shf_lo hc sμ u v hu hv) (by exact_mod_cast Nat.zero_le MX) v y hcl
  obtain ⟨w, l1, l2⟩ := lifted hc sμ hneg
  have fit := l2.fit hneg
  obtain ⟨A, hA⟩ : ∃ A, shf (df c) μ = A := ⟨_, rfl⟩
  have szw : ∀ i, i < n → SzQ 300 (w i) := fun i hi => lift_sz hc sμ hneg l2 hi
  have sx : SzQ 110 (-μ) := (szq_neg sμ).mono (by decide)
  -- the ways
  have ways : fold (fun s d => P.dearest_L2 (enBk bk) (.list (wl n w)) (enCm n c) (enQ μ) s d) (rangeD 0 (n : Int)) [] = some ((List.range n).map fun u => .list ((List.range n).map fun v => .bool (tgB A w u v))) := by
    refine fold_appR n _ (by omega) fun u hu acc ha => ?_
    have inner : fold (fun s d => P.dearest_L1 (.list (wl n w)) (.int (u : Int)) (enCm n c) (enQ μ) s d) (rangeD 0 (n : Int)) [] = some ((List.range n).map fun v => .bool (tgB A w u v)) := by
      refine fold_appR n _ (by omega) fun v hv acc ha => ?_
      have a1 := hc.lo u v hu hv
      have a2 := hc.hi u v hu hv
      have a3 := hc.lo u u hu hu
      have a4 := hc.hi u u hu hu
      have sa : SzQ 50 ((c u v - c u u : Int) : Rat) := szq_ofInt (by unfold Sz; omega) (by decide)
      have s1 := szq_add (szw u hu) sa
      have eA : w u + ((c u v - c u u : Int) : Rat) - μ = w u + A u v := by rw [← hA]; unfold shf df; grind
      unfold P.dearest_L1
      simp only [c_xop, ix_wl hu, ix_wl hv, ix_Cm hu, ix_rowC hu, ix_rowC hv, c_sub, c_xtup, c_xseq1, c_xseq0, Option.map_some, int_Q, c_ap2, p_plus ((szw u hu).mono (by decide)) (sa.mono (by decide)), p_minus (s1.mono (by decide)) (sμ.mono (by decide)), Option.bind_some, eA, c_nei, c_xmand, c_xbool, eq_Q, Int.natCast_inj]
      by_cases huv : u = v
      · subst huv; simp [tgB, apd_of ha]
      · simp only [huv, decide_false, Bool.not_false, c_xif_t, Option.bind_some, apd_of ha, tgB, ne_eq, not_false_eq_true, decide_true, Bool.true_and]
        rw [show decide (w u + A u v = w v) = decide (w v = w u + A u v) from decide_eq_decide.mpr eq_comm]
    unfold P.dearest_L2
    simp only [c_xseq0, Option.bind_some, c_xf1, len_Bk, hn, c_irng1, sm, if_true, inner, apd_of ha]
  have ew : PyData.list ((List.range n).map fun u => .list ((List.range n).map fun v => .bool (tgB A w u v))) = enW (bRows n (tgB A w)) := by
    simp [enW, bRows, enBl, List.map_map, Function.comp_def]
  -- an edge that goes back
  have edge : ∃ u v, u < n ∧ v < n ∧ tgB A w u v = true ∧ Reach (Wb n (tgB A w)) v u := by
    obtain ⟨x, y, c1, c2⟩ := m2.round (by omega)
    rw [hA] at c2 fit
    have hx := c1.lt x List.mem_cons_self
    cases y with
    | nil => exact absurd rfl c1.2.1
    | cons u r =>
      have c1' : RWk n (x :: u :: (r ++ [x])) := c1
      have hu := c1'.2.2.lt u List.mem_cons_self
      have hl : (u :: (r ++ [x])).getLast? = some x := by
        rw [show u :: (r ++ [x]) = (u :: r) ++ [x] from rfl, List.getLast?_append]; rfl
      have c2' : A u x + wr A (u :: (r ++ [x])) ≤ 0 := c2
      have f1 := fit u x hu hx c1'.2.1
      have f2 := pot_le fit c1'.2.2 rfl hl
      have rc := tight_all fit c1'.2.2 rfl hl (by grind)
      have hne : u ≠ x := c1'.2.1
      refine ⟨u, x, hu, hx, by unfold tgB; rw [decide_eq_true hne, Bool.true_and]; exact decide_eq_true (by grind), ?_⟩
      have := reach_map (W := Tg n A w) (W' := Wb n (tgB A w)) id (fun a b h => (Tg_iff a b).mp h) rc
      exact this
  -- the search
  have key := foldC_range (step := fun s d => P.dearest_L4 (enBk bk) ((List.range n).map fun u => .list ((List.range n).map fun v => .bool (tgB A w u v))) (enQ μ) (.list (wl n w)) d) (fun i _ => ∀ u v, u < i → v < n → tgB A w u v = true → ¬ Reach (Wb n (tgB A w)) v u) (fun r => ∃ p, r = dearD (-μ) p n w ∧ DearOk n c (-μ) p w) n () (by intro u v h; omega) (fun u _ hu hI => by
    have kin := foldC_range (step := fun s d => P.dearest_L3 ((List.range n).map fun u => .list ((List.range n).map fun v => .bool (tgB A w u v))) (.int (u : Int)) (enQ μ) (.list (wl n w)) d) (fun i _ => ∀ v, v < i → tgB A w u v = true → ¬ Reach (Wb n (tgB A w)) v u) (fun r => ∃ p, r = dearD (-μ) p n w ∧ DearOk n c (-μ) p w) n () (by intro v h; omega) (fun x _ hx hI2 => by
      have ix : op2 idxT (.list ((List.range n).map fun u => .list ((List.range n).map fun v => .bool (tgB A w u v)))) (.int (u : Int)) = some (.list ((List.range n).map fun v => .bool (tgB A w u v))) := by rw [c_ixl, at_range hu]
      have ix2 : op2 idxT (.list ((List.range n).map fun v => PyData.bool (tgB A w u v))) (.int (x : Int)) = some (.bool (tgB A w u x)) := by rw [c_ixl, at_range hx]
      rw [ew] at ix
      have ov := p_over (p := μ) (k := -1) (by decide) (sμ.mono (by decide)) (by unfold Sz; decide)
      have eov : μ / ((-1 : Int) : Rat) = -μ := by
        have : ((-1 : Int) : Rat) = -1 := rfl
        rw [this]; grind
      rw [eov] at ov
      obtain ⟨r, w1, w2, w3⟩ := p_way (n := n) (tgB A w) (by omega) hx hu
      unfold P.dearest_L3
      simp only [c_xop, ix, ix2, c_xbool, ew]
      cases ht : tgB A w u x with
      | false =>
        left
        refine ⟨(), by simp, fun v hv htv => ?_⟩
        rcases Nat.lt_succ_iff_lt_or_eq.mp hv with z | rfl
        · exact hI2 v z htv
        · rw [ht] at htv; cases htv
      | true =>
        simp only [c_xif_t, c_ap3, w1, Option.bind_some]
        cases r with
        | none =>
          left
          refine ⟨(), by simp [enR], fun v hv htv => ?_⟩
          rcases Nat.lt_succ_iff_lt_or_eq.mp hv with z | rfl
          · exact hI2 v z htv
          · intro hr; simp [← w3] at hr
        | some p =>
          right
          obtain ⟨y1, y2⟩ := w2 p rfl
          refine ⟨dearD (-μ) p n w, ?_, p, rfl, ?_⟩
          · simp only [enR, c_notnl, c_xbool, c_xif_t, c_sub, c_ap2, (by decide : (0 : Int) - 1 = -1), ov, c_xtup, c_xseq1, c_xseq0, Option.map_some, dearD]
          · have hne : u ≠ x := by
              intro e; subst e; simp [tgB] at ht
            have hlen : 2 ≤ p.length := by
              match p, y1 with
              | [], y1 => exact absurd y1.hd (by simp)
              | [z], y1 =>
                have a1 := y1.hd; have a2 := y1.lst
                simp at a1 a2
                omega
              | _ :: _ :: _, _ => simp
            refine ⟨⟨hlen, y1.nd, y2⟩, ?_, fun i j hi hj hij => ?_, sx, szw⟩
            · have ts := tight_sum (μ := μ) (c := c) (w := w) (n := n) (by rw [hA]; exact y1.st) y1.hd y1.lst
              have cs := clos_sum c x y1.lst
              have e1 : steps c p = clos c x p := by
                unfold steps
                have := y1.hd
                cases p with
                | nil => simp at this
                | cons z r => simp at this; subst this; rfl
              rw [e1]
              unfold tgB at ht
              simp only [Bool.and_eq_true, decide_eq_true_eq] at ht
              have t2 : w x = w u + shf (df c) μ u x := by rw [hA]; exact ht.2
              unfold shf df at t2
              have e2 : (((owns c p).sum - (clos c x p).sum : Int) : Rat) = -((sumS c p : Rat) + ((c u x - c u u : Int) : Rat)) := by
                have : (owns c p).sum - (clos c x p).sum = -(sumS c p + (c u x - c u u)) := by omega
                rw [this]; push_cast; grind
              have e3 : ((p.length - 1 : Nat) : Rat) = (p.length : Rat) - 1 := by
                have : ((p.length - 1 : Nat) : Rat) + 1 = (p.length : Rat) := by exact_mod_cast (by omega : p.length - 1 + 1 = p.length)
                grind
              rw [e2]
              rw [e3] at ts
              grind
            · have := fit i j hi hj hij
              unfold shf df at this
              grind)
    rcases kin with ⟨s', k1, k2⟩ | ⟨r, k1, k2⟩
    · left
      refine ⟨(), ?_, fun a b ha hb htb => ?_⟩
      · unfold P.dearest_L4
        simp only [c_xf1, len_Bk, hn, c_irng1, sm, if_true, Option.bind_some, k1, c_aft1]
      · rcases Nat.lt_succ_iff_lt_or_eq.mp ha with z | rfl
        · exact hI a b z hb htb
        · exact k2 b hb htb
    · right
      refine ⟨r, ?_, k2⟩
      unfold P.dearest_L4
      simp only [c_xf1, len_Bk, hn, c_irng1, sm, if_true, Option.bind_some, k1, c_aft2])
  have hd2 : ¬ ((n : Int) < 2) := by omega
  rcases key with ⟨s', k1, k2⟩ | ⟨r, k1, p, rfl, k2⟩
  · obtain ⟨u, x, e1, e2, e3, e4⟩ := edge
    exact absurd e4 (k2 u x e1 e2 e3)
  · refine ⟨-μ, p, w, ?_, by rw [hn, hcc]; exact k2⟩
    unfold P.dearest
    simp only [c_xf1, len_Bk, hn, c_xop, c_lt, hd2, decide_false, c_xbool, c_xif_f, c_ap1, p_costs v (by omega : bk.length ≤ 1000), hcc, Option.bind_some, m1, c_ap2, l1, c_xseq0, c_irng1, sm, if_true, ways, k1, c_aft2]
end C
namespace C
open PySem PySem.Spec PyProof.Rows L2 M N B

abbrev AmF := Nat → Nat → Int
structure FOk (m n : Nat) (p a : AmF) : Prop where
  pr : ∀ k g, k < m → g < n → 1 ≤ p k g ∧ p k g ≤ 1000000
  am : ∀ k g, k < m → g < n → 0 ≤ a k g ∧ a k g ≤ 1000000
  ps : ∀ k, k < m → ∃ g, g < n ∧ 0 < a k g
section
variable {m n : Nat} {p a : AmF}
end
end C
namespace C
open PySem PySem.Spec PyProof.Rows L2 M N B

theorem modB {x : Int} {k : Int} (hk : 0 < k) : 0 ≤ x.fmod k ∧ x.fmod k < k := by
  rw [fmod_pos hk]
  exact ⟨Int.emod_nonneg _ (by omega), Int.emod_lt_of_pos _ hk⟩
theorem getD_at {xs : List Int} {i : Nat} (h : i < xs.length) : op2 idxT (.list (enI xs)) (.int (i : Int)) = some (.int (xs.getD i 0)) := by
  rw [c_ixl]; unfold enI
  rw [atI_nat (v := .int (xs.getD i 0)) (by rw [List.getElem?_map, List.getD_eq_getElem?_getD, List.getElem?_eq_getElem h]; rfl)]
end C
namespace C
open PySem PySem.Spec PyProof.Rows L2 M N B

theorem sort_eq {xs ys : List Int} (hx : xs.Nodup) (hy : ys.Pairwise (· < ·)) (h : ∀ a, a ∈ xs ↔ a ∈ ys) : sortI xs = ys := by
  have nd : ys.Nodup := hy.imp fun h => by omega
  have p : xs.Perm ys := (List.perm_ext_iff_of_nodup hx nd).mpr h
  have s := List.pairwise_mergeSort (le := fun a b : Int => decide (a ≤ b)) (by intro a b c; simp; omega) (by intro a b; simp; omega) xs
  refine List.Perm.eq_of_pairwise (le := fun a b : Int => a ≤ b) (fun a b _ _ h1 h2 => by omega) (s.imp fun h => by simpa using h) (hy.imp fun h => by omega) ?_
  exact (List.mergeSort_perm xs _).trans p
theorem sortedT_eq {xs : List Int} : (sortedT [.p (.list (enI xs))]).bind T.pure? = some (.list (enI (sortI xs))) := by
  have h2 : intsOf (enI xs) = some xs := intsOf_map xs
  simp only [sortedT, ev_seql, Option.bind_some, h2, Option.map_some, T.pure?]
  rfl
theorem in_nat {k : Nat} {fs : List Nat} : op2 notInT (.int (k : Int)) (.list (enI (natI fs))) = some (.bool (!decide (k ∈ fs))) := by
  have h1 : (enI (natI fs)).all flatD = true := by simp [enI, natI, flatD]
  have h2 : (enI (natI fs)).any (fun z => PyData.eqv z (.int (k : Int))) = decide (k ∈ fs) := by
    rw [Bool.eq_iff_iff]
    simp only [enI, natI, List.any_map, List.any_eq_true, decide_eq_true_eq]
    constructor
    · rintro ⟨x, hx, e⟩
      have : x = k := by have : (x : Int) = k := by simpa [PyData.eqv] using e
                         omega
      exact this ▸ hx
    · exact fun h => ⟨k, h, by simp [PyData.eqv]⟩
  have hf : flatD (.int (k : Int)) = true := rfl
  simp only [op2, notInT, ev_pure, Option.bind_some, ev_anyl, hf, h1, and_self, if_true, h2]
/-- the law's search, so far -/
structure AB (n : Nat) (c : CF) (v : Nat) (fs : List Nat) (at' : Nat) : Prop where
  nd : fs.Nodup
  lt : ∀ x ∈ fs, x < n
  rc : ∀ x ∈ fs, Reach (Op n c) x v
  st : v ∈ fs
  le : at' ≤ fs.length
  cl : ∀ i y, i < at' → fs[i]? = some y → ∀ k, k < n → c k y ≤ c k k → k ∈ fs
theorem AB.all {n : Nat} {c : CF} {v : Nat} {fs : List Nat} (h : AB n c v fs fs.length) {k : Nat} (hk : Reach (Op n c) k v) : k ∈ fs := by
  have key : ∀ {a b : Nat}, Reach (Op n c) a b → b ∈ fs → a ∈ fs := by
    intro a b r
    induction r with
    | refl => exact fun h => h
    | step r w ih =>
      rename_i x y
      intro hy
      obtain ⟨i, hi, e⟩ := List.mem_iff_getElem.mp hy
      obtain ⟨w1, w2, w3⟩ := w
      have w4 : c x y ≤ c x x := by have := w3; unfold opn at this; simp at this; exact this.2
      exact ih (h.cl i y hi (by rw [List.getElem?_eq_getElem hi, e]) x w1 w4)
  exact key hk h.st
end C
namespace B
open PySem PySem.Spec PyProof.Rows L2 M

end B
namespace B
open PySem PySem.Spec PyProof.Rows L2 M

theorem lc_enum {g : D → En → Option En} {tt : En → Option Bool} {me : EM} {env : En} : ∀ (xs : List Int) (k : Nat) (p : Nat → Int → Bool), (∀ j x, xs[j]? = some x → ∃ e, g (.tuple [.int ((k + j : Nat) : Int), .int x]) env = some e ∧ tt e = some (p j x) ∧ (p j x = true → me e = some (.p (.int x)))) →
    ∃ ys, lcRun g tt me env (enumD k (enI xs)) = some (enI ys) ∧ ys.Sublist xs ∧ ∀ j x, xs[j]? = some x → p j x = true → x ∈ ys
  | [], k, p, _ => ⟨[], rfl, List.Sublist.refl _, fun j x h => by simp at h⟩
  | x :: r, k, p, h => by
    obtain ⟨e, h1, h2, h3⟩ := h 0 x rfl
    obtain ⟨ys, i1, i2, i3⟩ := lc_enum r (k + 1) (fun j => p (j + 1)) (fun j y hj => by
      have := h (j + 1) y (by simpa using hj)
      rw [show k + 1 + j = k + (j + 1) by omega]
      exact this)
    cases hp : p 0 x with
    | true =>
      refine ⟨x :: ys, ?_, i2.cons_cons x, ?_⟩
      · have : enumD k (enI (x :: r)) = .tuple [.int ((k + 0 : Nat) : Int), .int x] :: enumD (k + 1) (enI r) := rfl
        rw [this]
        simp only [lcRun, h1, h2, hp, Option.bind_some, h3 hp]
        simp only [if_true, ev_pure, Option.bind_some, i1, Option.map_some]
        rfl
      · intro j y hj hpy
        cases j with
        | zero => simp at hj; subst hj; exact List.mem_cons_self
        | succ j => exact List.mem_cons_of_mem _ (i3 j y (by simpa using hj) hpy)
    | false =>
      refine ⟨ys, ?_, i2.cons x, ?_⟩
      · have : enumD k (enI (x :: r)) = .tuple [.int ((k + 0 : Nat) : Int), .int x] :: enumD (k + 1) (enI r) := rfl
        rw [this]
        simp only [lcRun, h1, h2, hp, Option.bind_some]
        simp [i1]
      · intro j y hj hpy
        cases j with
        | zero => simp at hj; subst hj; rw [hp] at hpy; cases hpy
        | succ j => exact i3 j y (by simpa using hj) hpy

theorem mp_ins (ps : List Int) (k : Nat) (v : Int) : ((enI ps).map T.p).take k ++ [T.p (.int v)] ++ ((enI ps).map T.p).drop k = (enI (ps.take k ++ [v] ++ ps.drop k)).map T.p := by
  simp [enI, List.map_take, List.map_drop]
theorem perm_ins (ps : List Int) (k : Nat) (v : Int) : (ps.take k ++ [v] ++ ps.drop k).Perm (ps ++ [v]) := by
  have h : (ps.take k ++ [v] ++ ps.drop k).Perm (ps.take k ++ (ps.drop k ++ [v])) := by
    rw [List.append_assoc]
    exact List.Perm.append_left _ List.perm_append_comm
  rw [← List.append_assoc, List.take_append_drop] at h
  exact h
theorem mixed (row picks : List Int) (hl : row.length ≤ picks.length) (hl2 : row.length ≤ 1000) :
    ∃ ys : List Int, callT Q.law_mixed [.p (.list (enI row)), .p (.list (enI picks))] = some (.p (.list (enI ys))) ∧ ys.Perm row := by
  have key : ∃ ys : List Int, Q.law_mixed [.p (.list (enI row)), .p (.list (enI picks))] = some (mI ys) ∧ ys.Perm row := by
    unfold Q.law_mixed runFn startE
    obtain ⟨e, he, ys, o3, o4, rfl, hys⟩ := forRun_inv (g := gTp (gCn (gNm 3) (gCn (gNm 4) (gNl)))) (mb := Q.law_mixed_L1)
      (fun i e => ∃ (ys : List Int) (o3 o4 : Option T), e = [some (.p (.list (enI row))), some (.p (.list (enI picks))), some (mI ys), o3, o4] ∧ ys.Perm (row.take i))
      (enumD 0 (enI row)) [some (.p (.list (enI row))), some (.p (.list (enI picks))), some (mI []), none, none] 0 ⟨[], _, _, rfl, List.Perm.refl _⟩ (by
        rintro i d e hd ⟨ys, o3, o4, rfl, hys⟩
        obtain ⟨a, ha, rfl⟩ := enumD_get hd
        have hi : i < row.length := by
          have := (List.getElem?_eq_some_iff.mp ha).1
          rwa [enI_length] at this
        have ha' : a = .int row[i] := by
          unfold enI at ha
          simp [hi] at ha
          exact ha.symm
        subst ha'
        rw [Nat.zero_add] at hys ⊢
        have hyl : ys.length = i := by
          have := hys.length_eq
          rw [List.length_take] at this
          omega
        obtain ⟨pk, _, hpk⟩ := atI_ex (xs := picks) (i := (i : Int)) (by omega) (by omega)
        have hp1 : (0 : Int) < (ys.length : Int) + 1 := by omega
        have hp0 : (ys.length : Int) + 1 ≠ 0 := by omega
        have k0 := Int.emod_nonneg pk hp0
        have k1 := Int.emod_lt_of_pos pk hp1
        obtain ⟨k, hk⟩ : ∃ k, pk % ((ys.length : Int) + 1) = k := ⟨_, rfl⟩
        rw [hk] at k0 k1
        have hins : insN ((enI ys).map T.p) k (.int row[i]) = some ((enI (ys.take k.toNat ++ [row[i]] ++ ys.drop k.toNat)).map T.p) := by
          unfold insN
          rw [if_pos ⟨k0, by omega, by rw [List.length_map, enI_length]; unfold LIM; omega⟩, mp_ins]
        refine ⟨[some (.p (.list (enI row))), some (.p (.list (enI picks))), some (mI ys), some (.p (.int i)), some (.p (.int row[i]))], [some (.p (.list (enI row))), some (.p (.list (enI picks))), some (mI (ys.take k.toNat ++ [row[i]] ++ ys.drop k.toNat)), some (.p (.int i)), some (.p (.int row[i]))], by simp, .inl ?_, _, _, _, rfl, ?_⟩
        · unfold Q.law_mixed_L1
          have hlm := len_mI ys
          simp only [mI] at hlm ⊢
          simp [-List.length_map, -ev_lenm, hpk, hlm, hp0, fmod_pos hp1, hk, hins]
        · refine (perm_ins ys _ _).trans ?_
          rw [List.take_succ, List.getElem?_eq_getElem hi]
          exact List.Perm.append_right _ hys)
    refine ⟨ys, ?_, ?_⟩
    · have L0 : 0 ≤ LIM := Nat.zero_le _
      have he' := he
      simp only [mI, enI, List.map_nil] at he'
      simp [mI, enI, L0, he']
    · rw [Nat.zero_add, enumD_length, enI_length, List.take_length] at hys
      exact hys
  obtain ⟨ys, h1, h2⟩ := key
  exact ⟨ys, callT_snap rfl h1 (snap_mI ys), h2⟩
end B
namespace B
open PySem PySem.Spec PyProof.Rows L2 M

structure GoodCh (b : Buy) : Prop where
  o1 : 1 ≤ b.1.length
  o12 : b.1.length ≤ 12
  t1 : 1 ≤ b.2.length
  on : b.1.Nodup
  tn : b.2.Nodup
  sub : ∀ x ∈ b.2, x ∈ b.1
  rng : ∀ x ∈ b.1, 0 ≤ x ∧ x < 100
structure GoodThings (ts : List Int) : Prop where
  l1 : 1 ≤ ts.length
  l2 : ts.length ≤ 60
  nd : ts.Nodup
  rng : ∀ x ∈ ts, 0 ≤ x ∧ x < 100
structure GoodOff (ts os : List Int) : Prop where
  l1 : 1 ≤ os.length
  l12 : os.length ≤ 12
  nd : os.Nodup
  sub : ∀ x ∈ os, x ∈ ts
theorem GoodOff.perm {ts os os' : List Int} (h : GoodOff ts os) (p : os'.Perm os) : GoodOff ts os' :=
  ⟨by rw [p.length_eq]; exact h.l1, by rw [p.length_eq]; exact h.l12, p.nodup_iff.mpr h.nd, fun x hx => h.sub x (p.mem_iff.mp hx)⟩

theorem window {ts : List Int} (hn : ts.Nodup) (f n : Nat) (hf : f ≤ ts.length) (hl : n ≤ ts.length) : (((ts ++ ts).drop f).take n).Nodup ∧ ∀ x ∈ ((ts ++ ts).drop f).take n, x ∈ ts := by
  have e : ((ts ++ ts).drop f).take ts.length = ts.drop f ++ ts.take f := by
    rw [List.drop_append_of_le_length hf, List.take_append, List.length_drop]
    rw [List.take_of_length_le (by rw [List.length_drop]; omega)]
    rw [show ts.length - (ts.length - f) = f by omega]
  have p : (ts.drop f ++ ts.take f).Perm ts := by
    have := List.perm_append_comm (l₁ := ts.drop f) (l₂ := ts.take f)
    rwa [List.take_append_drop] at this
  have s : (((ts ++ ts).drop f).take n).Sublist (ts.drop f ++ ts.take f) := by
    rw [← e]
    have : ((ts ++ ts).drop f).take n = (((ts ++ ts).drop f).take ts.length).take n := by rw [List.take_take, Nat.min_eq_left hl]
    rw [this]
    exact List.take_sublist _ _
  exact ⟨s.nodup (p.nodup_iff.mpr hn), fun x hx => p.mem_iff.mp (s.subset hx)⟩

def LogInv (ns heads things : List Int) (at' : Int) (i : Nat) (e : En) : Prop := e.length = 20 ∧ e[0]? = some (some (.sc ns)) ∧ e[1]? = some (some (.p (.int at'))) ∧ e[3]? = some (some (.p (.list (enI heads)))) ∧ e[5]? = some (some (.p (.list (enI things)))) ∧
  ∃ lg : List Buy, e[9]? = some (some (.ml (lg.map fun b => T.p (enB b)))) ∧ lg.length = i ∧ ∀ b ∈ lg, GoodCh b ∧ ∀ x ∈ b.1, x ∈ things

theorem enI_ne {xs : List Int} (h : 1 ≤ xs.length) : ¬ enI xs = [] := by
  cases xs with
  | nil => simp at h
  | cons x r => exact fun z => nomatch z
theorem minT_ints {xs : List Int} {m : Int} (h : minI xs = some m) : minT [.p (.list (enI xs))] = some (.p (.int m)) := by
  unfold enI
  simp [minT, intsOf_map, h]
theorem log_turn (ns heads things : List Int) (at' : Int) (h1 : 0 ≤ at') (hh : heads.length = 20) (hh2 : ∀ x ∈ heads, 0 ≤ x ∧ x < 1000000) (ht : GoodThings things)
    (e : En) (i : Nat) (hi : i < 1000) (hinv : LogInv ns heads things at' i e) (e10 : e[10]? = some (some (.p (.int i)))) :
    ∃ e', Q.law_a_log_L2 e = some (.nx e') ∧ LogInv ns heads things at' (i + 1) e' := by
  obtain ⟨hl, e0, e1, e3, e5, lg, e9, hbl, hlg⟩ := hinv
  obtain ⟨c, hc⟩ := c_cell_at ns (at' + 1) (by omega)
  obtain ⟨h15, m15, q15⟩ := atI_ex (xs := heads) (i := 15) (by decide) (by omega)
  obtain ⟨h16, m16, q16⟩ := atI_ex (xs := heads) (i := 16) (by decide) (by omega)
  obtain ⟨h17, m17, q17⟩ := atI_ex (xs := heads) (i := 17) (by decide) (by omega)
  obtain ⟨h2, m2, q2⟩ := atI_ex (xs := heads) (i := 2) (by decide) (by omega)
  obtain ⟨h3, m3, q3⟩ := atI_ex (xs := heads) (i := 3) (by decide) (by omega)
  obtain ⟨picks, hp, hpl, hpx⟩ := c_draws (c + i * (h15 + 1)) 30 1000000 (by decide) (by decide) (by decide) (by decide)
  have hpl : picks.length = 30 := hpl
  have hm1 : mulOk (i : Int) (h15 + 1) = true := mulOk_l (by omega)
  obtain ⟨p29, _, q29⟩ := atI_ex (xs := picks) (i := 29) (by decide) (by omega)
  obtain ⟨p14, _, q14⟩ := atI_ex (xs := picks) (i := 14) (by decide) (by omega)
  obtain ⟨N, hN⟩ : ∃ N : Int, (things.length : Int) = N := ⟨_, rfl⟩
  have ht1 := ht.l1
  have ht2 := ht.l2
  have hN1 : 0 < N := by omega
  have hN0 : N ≠ 0 := by omega
  have fN : ∀ x : Int, x.fmod N = x % N := fun x => fmod_pos hN1
  have f3 : ∀ x : Int, x.fmod 3 = x % 3 := fun x => fmod_pos (by decide)
  have f2 : ∀ x : Int, x.fmod 2 = x % 2 := fun x => fmod_pos (by decide)
  have f8 : ∀ x : Int, x.fmod 8 = x % 8 := fun x => fmod_pos (by decide)
  have f97 : ∀ x : Int, x.fmod 97 = x % 97 := fun x => fmod_pos (by decide)
  have g8 : ∀ x : Int, x.fdiv 8 = x / 8 := fun x => fdiv_pos (by decide)
  have d8 : divOk 8 = true := by decide
  have L2' : 2 ≤ LIM := by decide
  have L1 : 1 ≤ LIM := by decide
  have L0 : 0 ≤ LIM := Nat.zero_le _
  unfold Q.law_a_log_L2
  refine exE (e.set 11 (some (.p (.list (enI picks))))) (by simp [e0, e1, e3, e10, hc, q15, hm1, hp]) ?_
  obtain ⟨first, hfi, hf0, hf1⟩ : ∃ f, p29 / 8 % N = f ∧ 0 ≤ f ∧ f < N := ⟨_, rfl, Int.emod_nonneg _ hN0, Int.emod_lt_of_pos _ hN1⟩
  refine exE ((e.set 11 (some (.p (.list (enI picks))))).set 12 (some (.p (.int first)))) (by
    simp [-getElem?_pos, hl, q29, d8, g8, e5, enI_length, hN, hN0, fN, hfi]) ?_
  obtain ⟨sm, hsm⟩ : ∃ sm, sm = ((things ++ things).drop first.toNat).take (min 12 things.length) := ⟨_, rfl⟩
  obtain ⟨w1, w2⟩ := window ht.nd first.toNat (min 12 things.length) (by omega) (by omega)
  rw [← hsm] at w1 w2
  have hsl : sm.length ≤ 12 := by rw [hsm, List.length_take]; omega
  have hcut : cutL (enI things ++ enI things) (some first) (some (first + min 12 N)) = enI sm := by
    rw [cut_ft _ _ _ hf0 (by omega), hsm]
    have e1 : enI things ++ enI things = enI (things ++ things) := by simp [enI]
    have e2 : (first + min 12 N).toNat - first.toNat = min 12 things.length := by omega
    rw [e1, e2]
    simp [enI, List.map_take, List.map_drop]
  refine exE (((e.set 11 (some (.p (.list (enI picks))))).set 12 (some (.p (.int first)))).set 13 (some (.p (.list (enI sm))))) (by
    have h2 : (2 : Int).toNat = 2 := rfl
    have hz : things.length * 2 ≤ LIM := by unfold LIM; omega
    have hr62 : rep62 things.length 2 := ⟨by decide, by decide, by simpa using hz⟩
    simp only [ev_sSet, ev_mSlice, ev_mOp, ev_mVar, ev_mC, ev_oSome, ev_mCall, ev_aCons, ev_aNil]
    simp [-getElem?_pos, hl, e5, enI_length, hN, hr62, hcut]) ?_
  generalize hB : ((e.set 11 (some (.p (.list (enI picks))))).set 12 (some (.p (.int first)))).set 13 (some (.p (.list (enI sm)))) = B
  have bl : B.length = 20 := by rw [← hB]; simp [hl]
  have b0 : B[0]? = some (some (.sc ns)) := by rw [← hB]; simp [e0]
  have b1 : B[1]? = some (some (.p (.int at'))) := by rw [← hB]; simp [e1]
  have b3 : B[3]? = some (some (.p (.list (enI heads)))) := by rw [← hB]; simp [e3]
  have b5 : B[5]? = some (some (.p (.list (enI things)))) := by rw [← hB]; simp [e5]
  have b9 : B[9]? = some (some (.ml (lg.map fun b => T.p (enB b)))) := by rw [← hB]; simp [e9]
  have b11 : B[11]? = some (some (.p (.list (enI picks)))) := by rw [← hB]; simp [-getElem?_pos, hl]
  have b13 : B[13]? = some (some (.p (.list (enI sm)))) := by rw [← hB]; simp [-getElem?_pos, hl]
  clear hB
  have hlc : ∀ xs : List Int, xs.length ≤ 12 → (enI xs).length ≤ LIM := fun xs h => by rw [enI_length]; unfold LIM; omega
  -- offers
  refine exS (fun E => ∃ os, E = B.set 14 (some (.p (.list (enI os)))) ∧ os.Nodup ∧ (∀ x ∈ os, x ∈ things) ∧ os.length ≤ 12) ?_ ?_
  · obtain ⟨ys, y1, y2, y3⟩ := lc_enum (g := gTp (gCn (gNm 19) (gCn (gNm 8) (gNl)))) (tt := bOp gtT (mOp modT (mOp idxT (mVar 11) (mVar 19)) (mC (.int 3))) (mC (.int 0))) (me := mVar 8) (env := (B.set 8 none).set 19 none) sm 0 (fun j x => decide (0 < (picks.getD j 0) % 3)) (by
      intro j x hj
      have hjl := (List.getElem?_eq_some_iff.mp hj).1
      have ha : atI (enI picks) (j : Int) = some (.int (picks.getD j 0)) := by
        have := atI_enI (xs := picks) (i := (j : Int)) (by omega) (by omega)
        simpa using this
      rw [Nat.zero_add]
      exact ⟨_, by simp <;> rfl, by simp [-getElem?_pos, -List.getD_eq_getElem?_getD, bl, b11, ha, f3], fun _ => by simp [-getElem?_pos, bl]⟩)
    exact ⟨_, by simp [-getElem?_pos, bl, b13, y1, hlc ys (Nat.le_trans y2.length_le hsl)] <;> rfl, ys, rfl, y2.nodup w1, fun x hx => w2 x (y2.subset hx), Nat.le_trans y2.length_le hsl⟩
  rintro _ ⟨os0, rfl, n0, s0, l0⟩
  refine exS (fun E => ∃ os, E = B.set 14 (some (.p (.list (enI os)))) ∧ GoodOff things os) ?_ ?_
  · by_cases hz : 1 ≤ os0.length
    · have hne := enI_ne hz
      exact ⟨_, by simp [-getElem?_pos, bl, hne] <;> rfl, os0, rfl, hz, l0, n0, s0⟩
    · have hz' : os0 = [] := List.length_eq_zero_iff.mp (by omega)
      subst hz'
      obtain ⟨y, hy, qy⟩ := atI_ex (xs := things) (i := p14 % N) (Int.emod_nonneg _ hN0) (by rw [hN]; exact Int.emod_lt_of_pos _ hN1)
      exact ⟨B.set 14 (some (.p (.list (enI [y])))), by simp [-getElem?_pos, bl, show enI [] = [] from rfl, show enI [y] = [.int y] from rfl, b5, b11, q14, enI_length, hN, hN0, fN, qy, L1], [y], rfl, by simp, by simp, by simp, by simpa using hy⟩
  rintro _ ⟨os1, rfl, g1⟩
  -- mixed
  have hs1 : cutL (enI picks) (some 15) (some 29) = enI ((picks.drop 15).take 14) := by
    rw [cut_ft _ _ _ (by decide) (by decide)]
    simp [enI, List.map_take, List.map_drop]
  obtain ⟨pk2, hs2, hpk2⟩ : ∃ pk2 : List Int, cutL (enI picks) (some 1) (some 15) = enI pk2 ∧ pk2.length = 14 := by
    refine ⟨(picks.drop 1).take 14, ?_, by simp [hpl]⟩
    rw [cut_ft _ _ _ (by decide) (by decide)]
    simp [enI, List.map_take, List.map_drop]
  have hpk1 : ((picks.drop 15).take 14).length = 14 := by simp [hpl]
  obtain ⟨os, ho, hop⟩ := mixed os1 ((picks.drop 15).take 14) (by rw [hpk1]; have := g1.l12; omega) (by have := g1.l12; omega)
  have go := g1.perm hop
  refine exE (B.set 14 (some (.p (.list (enI os))))) (by simp [-getElem?_pos, bl, b11, hs1, ho]) ?_
  clear g1 hop ho
  obtain ⟨by', hby, hby0⟩ : ∃ b : Int, atI [PyData.int 1, .int 20] (h16 % 2) = some (.int b) ∧ (b = 1 ∨ b = 20) := by
    rcases (show h16 % 2 = 0 ∨ h16 % 2 = 1 by omega) with z | z <;> rw [z]
    · exact ⟨1, rfl, .inl rfl⟩
    · exact ⟨20, rfl, .inr rfl⟩
  refine exE ((B.set 14 (some (.p (.list (enI os))))).set 15 (some (.p (.int by')))) (by simp [-getElem?_pos, bl, b3, q16, f2, hby, L2']) ?_
  generalize hC : (B.set 14 (some (.p (.list (enI os))))).set 15 (some (.p (.int by'))) = C
  have cl : C.length = 20 := by rw [← hC]; simp [bl]
  have c0 : C[0]? = some (some (.sc ns)) := by rw [← hC]; simp [b0]
  have c1 : C[1]? = some (some (.p (.int at'))) := by rw [← hC]; simp [b1]
  have c3 : C[3]? = some (some (.p (.list (enI heads)))) := by rw [← hC]; simp [b3]
  have c5 : C[5]? = some (some (.p (.list (enI things)))) := by rw [← hC]; simp [b5]
  have c9 : C[9]? = some (some (.ml (lg.map fun b => T.p (enB b)))) := by rw [← hC]; simp [b9]
  have c11 : C[11]? = some (some (.p (.list (enI picks)))) := by rw [← hC]; simp [b11]
  have c14 : C[14]? = some (some (.p (.list (enI os)))) := by rw [← hC]; simp [-getElem?_pos, bl]
  have c15 : C[15]? = some (some (.p (.int by'))) := by rw [← hC]; simp [-getElem?_pos, bl]
  clear hC
  have hol := go.l12
  have hol1 := go.l1
  obtain ⟨fl, hfl⟩ : ∃ fl : Int → Int, fl = fun x => (h2 % 97 * x + h3) % 97 / by' := ⟨_, rfl⟩
  have dby : divOk by' = true := by rcases hby0 with z | z <;> subst z <;> decide
  have gby : ∀ x : Int, x.fdiv by' = x / by' := fun x => fdiv_pos (by omega)
  refine exE (C.set 16 (some (.p (.list (enI (os.map fl)))))) (by
    have : lcRun (gNm 8) bYes (mOp fdivT (mOp modT (mOp addT (mOp mulT (mOp modT (mOp idxT (mVar 3) (mC (.int 2))) (mC (.int 97))) (mVar 8)) (mOp idxT (mVar 3) (mC (.int 3)))) (mC (.int 97))) (mVar 15)) (C.set 8 none) (enI os) = some (enI (os.map fl)) := by
      refine lc_ints _ _ fun x hx => ⟨_, rfl, rfl, ?_⟩
      have hm : mulOk (h2 % 97) x = true := mulOk_l (by omega)
      simp [-getElem?_pos, cl, c3, c15, q2, q3, f97, hm, dby, gby, hfl]
    simp [-getElem?_pos, cl, c14, this, hlc (os.map fl) (by simpa using hol)]) ?_
  have hlne : os.map fl ≠ [] := fun z => by have := congrArg List.length z; simp only [List.length_map, List.length_nil] at this; omega
  obtain ⟨mn, hmn⟩ := minI_some hlne
  obtain ⟨mn1, mn2⟩ := minI_spec hmn
  have hminT := minT_ints hmn
  refine exE ((C.set 16 (some (.p (.list (enI (os.map fl)))))).set 17 (some (.p (.int mn)))) (by simp [-getElem?_pos, cl, hminT]) ?_
  generalize hE : (C.set 16 (some (.p (.list (enI (os.map fl)))))).set 17 (some (.p (.int mn))) = E
  have dl : E.length = 20 := by rw [← hE]; simp [cl]
  have d0 : E[0]? = some (some (.sc ns)) := by rw [← hE]; simp [c0]
  have d1 : E[1]? = some (some (.p (.int at'))) := by rw [← hE]; simp [c1]
  have d3 : E[3]? = some (some (.p (.list (enI heads)))) := by rw [← hE]; simp [c3]
  have d5 : E[5]? = some (some (.p (.list (enI things)))) := by rw [← hE]; simp [c5]
  have d9 : E[9]? = some (some (.ml (lg.map fun b => T.p (enB b)))) := by rw [← hE]; simp [c9]
  have d11 : E[11]? = some (some (.p (.list (enI picks)))) := by rw [← hE]; simp [c11]
  have d14 : E[14]? = some (some (.p (.list (enI os)))) := by rw [← hE]; simp [c14]
  have d16 : E[16]? = some (some (.p (.list (enI (os.map fl))))) := by rw [← hE]; simp [-getElem?_pos, cl]
  have d17 : E[17]? = some (some (.p (.int mn))) := by rw [← hE]; simp [-getElem?_pos, cl]
  clear hE
  -- taken
  have hT : ∀ ys : List Int, ys.Sublist os → 1 ≤ ys.length → GoodOff os ys := fun ys hs h1 => ⟨h1, Nat.le_trans hs.length_le hol, hs.nodup go.nd, fun x hx => hs.subset hx⟩
  refine exS (fun F => ∃ ts, F = E.set 18 (some (.p (.list (enI ts)))) ∧ GoodOff os ts) ?_ ?_
  · obtain ⟨ys, y1, y2, y3⟩ := lc_enum (g := gTp (gCn (gNm 19) (gCn (gNm 8) (gNl)))) (tt := bOp eqT (mOp idxT (mVar 16) (mVar 19)) (mVar 17)) (me := mVar 8) (env := (E.set 8 none).set 19 none) os 0 (fun j x => decide (fl x = mn)) (by
      intro j x hj
      obtain ⟨hjl, hjx⟩ := List.getElem?_eq_some_iff.mp hj
      have ha : atI (enI (os.map fl)) (j : Int) = some (.int (fl x)) := by
        have := atI_enI (xs := os.map fl) (i := (j : Int)) (by omega) (by simp; omega)
        rw [this]
        simp [List.getD, hj]
      rw [Nat.zero_add]
      exact ⟨_, by simp <;> rfl, by simp [-getElem?_pos, dl, d16, d17, ha], fun _ => by simp [-getElem?_pos, dl]⟩)
    have hy1 : 1 ≤ ys.length := by
      obtain ⟨x, hx, hxm⟩ := List.mem_map.mp mn1
      obtain ⟨j, hj⟩ := List.mem_iff_getElem?.mp hx
      have := y3 j x hj (by simp [hxm])
      exact List.length_pos_of_mem this
    exact ⟨_, by simp [-getElem?_pos, dl, d14, y1, hlc ys (Nat.le_trans y2.length_le hol)] <;> rfl, ys, rfl, hT ys y2 hy1⟩
  rintro _ ⟨ts0, rfl, g0⟩
  refine exS (fun F => ∃ ts, F = E.set 18 (some (.p (.list (enI ts)))) ∧ GoodOff os ts) ?_ ?_
  · have hbr : ∃ F, sCons (sSet 18 (mLc (iEn (mVar 14)) [19, 8] (gTp (gCn (gNm 19) (gCn (gNm 8) (gNl)))) (bOp eqT (mOp modT (mOp idxT (mVar 11) (mOp addT (mC (.int 15)) (mVar 19))) (mC (.int 3))) (mC (.int 0))) (mVar 8))) (sSet 18 (mOrL (mVar 18) (mSlice (mVar 14) (oNone) (oSome (mC (.int 1)))))) (E.set 18 (some (.p (.list (enI ts0))))) = some (.nx F) ∧ ∃ ts, F = E.set 18 (some (.p (.list (enI ts)))) ∧ GoodOff os ts := by
      refine exS (fun F => ∃ ts, F = E.set 18 (some (.p (.list (enI ts)))) ∧ ts.Sublist os) ?_ ?_
      · obtain ⟨ys, y1, y2, y3⟩ := lc_enum (g := gTp (gCn (gNm 19) (gCn (gNm 8) (gNl)))) (tt := bOp eqT (mOp modT (mOp idxT (mVar 11) (mOp addT (mC (.int 15)) (mVar 19))) (mC (.int 3))) (mC (.int 0))) (me := mVar 8) (env := ((E.set 18 (some (.p (.list (enI ts0))))).set 8 none).set 19 none) os 0 (fun j x => decide ((picks.getD (15 + j) 0) % 3 = 0)) (by
          intro j x hj
          obtain ⟨hjl, hjx⟩ := List.getElem?_eq_some_iff.mp hj
          have ha : atI (enI picks) (15 + (j : Int)) = some (.int (picks.getD (15 + j) 0)) := by
            have := atI_enI (xs := picks) (i := 15 + (j : Int)) (by omega) (by omega)
            rw [this]
            rw [show (15 + (j : Int)).toNat = 15 + j by omega]
          rw [Nat.zero_add]
          exact ⟨_, by simp <;> rfl, by simp [-getElem?_pos, -List.getD_eq_getElem?_getD, dl, d11, ha, f3], fun _ => by simp [-getElem?_pos, dl]⟩)
        exact ⟨_, by simp [-getElem?_pos, dl, d14, y1, hlc ys (Nat.le_trans y2.length_le hol)] <;> rfl, ys, rfl, y2⟩
      rintro _ ⟨ts1, rfl, hs⟩
      by_cases hz : 1 ≤ ts1.length
      · have hne := enI_ne hz
        exact ⟨_, by simp [-getElem?_pos, dl, hne] <;> rfl, ts1, rfl, hT ts1 hs hz⟩
      · have hz' : ts1 = [] := List.length_eq_zero_iff.mp (by omega)
        subst hz'
        have hcut1 : cutL (enI os) none (some 1) = enI (os.take 1) := by
          rw [cut_to _ _ (by decide)]; simp [enI, List.map_take]
        refine ⟨E.set 18 (some (.p (.list (enI (os.take 1))))), ?_, os.take 1, rfl, hT _ (List.take_sublist _ _) (by rw [List.length_take]; omega)⟩
        simp [-getElem?_pos, dl, d14, show enI [] = [] from rfl, hcut1]
    by_cases hw1 : h17 % 3 = 0
    · obtain ⟨F, hF, hF2⟩ := hbr
      refine ⟨F, ?_, hF2⟩
      rw [← hF]
      simp only [ev_sIf, ev_bOr, ev_bOp]
      simp [-getElem?_pos, -ev_sCons, dl, d3, q17, f3, hw1]
    · by_cases hw2 : p29 % 8 = 0
      · obtain ⟨F, hF, hF2⟩ := hbr
        refine ⟨F, ?_, hF2⟩
        rw [← hF]
        simp only [ev_sIf, ev_bOr, ev_bOp]
        simp [-getElem?_pos, -ev_sCons, dl, d3, d11, q17, q29, f3, f8, hw1, hw2]
      · exact ⟨_, by simp [-getElem?_pos, dl, d3, d11, q17, q29, f3, f8, hw1, hw2] <;> rfl, ts0, rfl, g0⟩
  rintro _ ⟨ts, rfl, gt⟩
  obtain ⟨ms, hms, hmp⟩ := mixed ts pk2 (by rw [hpk2]; have := gt.l12; omega) (by have := gt.l12; omega)
  have gm := gt.perm hmp
  have hbl2 : lg.length < LIM := by unfold LIM; omega
  refine ⟨_, by simp [-getElem?_pos, dl, d14, d11, hs2, hms, L2', d9, hbl2] <;> rfl, ?_⟩
  refine ⟨by simp [dl], by simp [d0], by simp [d1], by simp [d3], by simp [d5], lg ++ [(os, ms)], by simp [-getElem?_pos, dl, enB], by simp [hbl], ?_⟩
  intro x hx
  rcases List.mem_append.mp hx with z | z
  · exact hlg x z
  · have : x = (os, ms) := by simpa using z
    subst this
    exact ⟨⟨hol1, hol, gm.l1, go.nd, gm.nd, gm.sub, fun y hy => ht.rng y (go.sub y hy)⟩, fun y hy => go.sub y hy⟩
end B
namespace B
open PySem PySem.Spec PyProof.Rows L2 M

def ThInv (ns heads more : List Int) (at' most : Int) (many : Nat) (i : Nat) (e : En) : Prop := ∃ (things : List Int) (o7 o8 : Option T), e = [some (.sc ns), some (.p (.int at')), some (.p (.int most)), some (.p (.list (enI heads))), some (.p (.int many)), some (mI things), some (.p (.list (enI more))), o7, o8, none, none, none, none, none, none, none, none, none, none, none] ∧
  things.Nodup ∧ (∀ x ∈ things, 0 ≤ x ∧ x < 100) ∧ things.length ≤ i ∧ (1 ≤ i → 1 ≤ things.length)
theorem a_log2 (ns : List Int) (at' most : Int) (h0 : 0 ≤ at') (hm : 1 ≤ most) (hm2 : most ≤ 100) :
    ∃ (lg : List Buy) (things : List Int), callT Q.law_a_log [.sc ns, .p (.int at'), .p (.int most)] = some (.p (enBk lg)) ∧ 1 ≤ lg.length ∧ (lg.length : Int) ≤ most ∧ GoodThings things ∧ ∀ b ∈ lg, GoodCh b ∧ ∀ x ∈ b.1, x ∈ things := by
  obtain ⟨c, hc⟩ := c_cell_at ns at' h0
  obtain ⟨c2, hc2⟩ := c_cell_at ns (at' + 2) (by omega)
  obtain ⟨heads, hp, hhl, hhx⟩ := c_draws c 20 1000000 (by decide) (by decide) (by decide) (by decide)
  obtain ⟨more, hq, hql, hqx⟩ := c_draws c2 40 1000000 (by decide) (by decide) (by decide) (by decide)
  have hhl : heads.length = 20 := hhl
  have hql : more.length = 40 := hql
  obtain ⟨h0', m0, q0⟩ := atI_ex (xs := heads) (i := 0) (by decide) (by omega)
  obtain ⟨h13, m13, q13⟩ := atI_ex (xs := heads) (i := 13) (by decide) (by omega)
  obtain ⟨h14, m14, q14⟩ := atI_ex (xs := heads) (i := 14) (by decide) (by omega)
  obtain ⟨h18, m18, q18⟩ := atI_ex (xs := heads) (i := 18) (by decide) (by omega)
  have f3 : ∀ x : Int, x.fmod 3 = x % 3 := fun x => fmod_pos (by decide)
  have f11 : ∀ x : Int, x.fmod 11 = x % 11 := fun x => fmod_pos (by decide)
  have fm : ∀ x : Int, x.fmod most = x % most := fun x => fmod_pos (by omega)
  have hm0 : most ≠ 0 := by omega
  have L3 : 3 ≤ LIM := by decide
  have L0 : 0 ≤ LIM := Nat.zero_le _
  obtain ⟨many, hmany, hy1, hy2⟩ : ∃ many : Nat, 1 + h0' % most = (many : Int) ∧ 1 ≤ many ∧ (many : Int) ≤ most := by
    have e1 := Int.emod_nonneg h0' hm0
    have e2 := Int.emod_lt_of_pos h0' (show 0 < most by omega)
    exact ⟨(1 + h0' % most).toNat, by omega, by omega, by omega⟩
  obtain ⟨md, hmd, hmd0, hmd1⟩ : ∃ md : Int, atI [PyData.int 8, .int 20, .int 100] (h14 % 3) = some (.int md) ∧ 0 < md ∧ md ≤ 100 := by
    rcases (show h14 % 3 = 0 ∨ h14 % 3 = 1 ∨ h14 % 3 = 2 by omega) with z | z | z <;> rw [z]
    · exact ⟨8, rfl, by omega, by omega⟩
    · exact ⟨20, rfl, by omega, by omega⟩
    · exact ⟨100, rfl, by omega, by omega⟩
  obtain ⟨hi1, hhi1, hi1a, hi1b⟩ : ∃ hi : Int, 3 + h13 % 11 = hi ∧ 3 ≤ hi ∧ hi ≤ 13 := ⟨_, rfl, by omega, by omega⟩
  obtain ⟨xs1, hx1, hx1l, hx1u⟩ : ∃ xs : List Int, cutL (enI heads) (some 1) (some hi1) = enI xs ∧ 2 ≤ xs.length ∧ xs.length ≤ 12 := by
    refine ⟨(heads.drop 1).take (hi1.toNat - 1), ?_, ?_, ?_⟩
    · rw [cut_ft _ _ _ (by decide) (by omega)]
      simp [enI, List.map_take, List.map_drop]
    · rw [List.length_take, List.length_drop]; omega
    · rw [List.length_take, List.length_drop]; omega
  obtain ⟨xs2, hx2, hx2u⟩ : ∃ xs : List Int, cutL (enI more) none (some (40 * if h18 % 3 = 0 then 1 else 0)) = enI xs ∧ xs.length ≤ 40 := by
    refine ⟨more.take (40 * if h18 % 3 = 0 then (1 : Int) else 0).toNat, ?_, ?_⟩
    · rw [cut_to _ _ (by split <;> decide)]
      simp [enI, List.map_take]
    · rw [List.length_take]; omega
  have hsum : enI xs1 ++ enI xs2 = enI (xs1 ++ xs2) := enI_append _ _
  have hm40 : mulOk 40 (if h18 % 3 = 0 then 1 else 0) = true := mulOk_l (by decide)
  obtain ⟨e, he, things, o7, o8, rfl, hn, hr, hlen, hpos⟩ := forRun_inv (g := gNm 7) (mb := Q.law_a_log_L1) (ThInv ns heads more at' most many) (enI (xs1 ++ xs2))
    [some (.sc ns), some (.p (.int at')), some (.p (.int most)), some (.p (.list (enI heads))), some (.p (.int many)), some (mI []), some (.p (.list (enI more))), none, none, none, none, none, none, none, none, none, none, none, none, none] 0
    ⟨[], _, _, rfl, by simp, by simp, by simp, fun z => by omega⟩ (by
      rintro i d e hd ⟨things, o7, o8, rfl, hn, hr, hlen, hpos⟩
      obtain ⟨x, rfl⟩ : ∃ x, d = .int x := by
        have hx := List.mem_of_getElem? hd
        unfold enI at hx
        obtain ⟨x, _, hx⟩ := List.mem_map.mp hx
        exact ⟨x, hx.symm⟩
      have hil : i < 52 := by
        have := (List.getElem?_eq_some_iff.mp hd).1
        rw [enI_length, List.length_append] at this
        omega
      rw [Nat.zero_add] at *
      have hmd' : md ≠ 0 := by omega
      have k0 := Int.emod_nonneg x hmd'
      have k1 := Int.emod_lt_of_pos x hmd0
      have hni := notIn_m things (x % md)
      unfold Q.law_a_log_L1
      by_cases hin : x % md ∈ things
      · refine ⟨_, [some (.sc ns), some (.p (.int at')), some (.p (.int most)), some (.p (.list (enI heads))), some (.p (.int many)), some (mI things), some (.p (.list (enI more))), some (.p (.int x)), some (.p (.int (x % md))), none, none, none, none, none, none, none, none, none, none, none], rfl, .inl ?_, things, _, _, rfl, hn, hr, by omega, fun _ => List.length_pos_of_mem hin⟩
        simp [q14, f3, hmd, hmd', fmod_pos hmd0, L3, hni, hin]
      · refine ⟨_, [some (.sc ns), some (.p (.int at')), some (.p (.int most)), some (.p (.list (enI heads))), some (.p (.int many)), some (mI (things ++ [x % md])), some (.p (.list (enI more))), some (.p (.int x)), some (.p (.int (x % md))), none, none, none, none, none, none, none, none, none, none, none], rfl, .inl ?_, things ++ [x % md], _, _, rfl, ?_, ?_, by simp; omega, fun _ => by simp⟩
        · have hlt : things.length < LIM := by unfold LIM; omega
          simp [q14, f3, hmd, hmd', fmod_pos hmd0, L3, hni, hin]
          simp [mI, enI_length, hlt, mp_app]
        · refine List.nodup_append.mpr ⟨hn, by simp, fun a ha b hb => ?_⟩
          have : b = x % md := by simpa using hb
          subst this
          intro z; subst z; exact hin ha
        · intro y hy
          rcases List.mem_append.mp hy with z | z
          · exact hr y z
          · have : y = x % md := by simpa using z
            subst this; omega)
  rw [enI_length, List.length_append, Nat.zero_add] at hlen hpos
  have gth : GoodThings things := ⟨hpos (by omega), by omega, hn, hr⟩
  have hs : smallI (many : Int) := by unfold smallI; omega
  obtain ⟨e2, he2, hinv⟩ := forRun_inv (g := gNm 10) (mb := Q.law_a_log_L2) (LogInv ns heads things at') (rangeD 0 many)
    [some (.sc ns), some (.p (.int at')), some (.p (.int most)), some (.p (.list (enI heads))), some (.p (.int many)), some (.p (.list (enI things))), some (.p (.list (enI more))), o7, o8, some (.ml []), none, none, none, none, none, none, none, none, none, none] 0
    ⟨rfl, rfl, rfl, rfl, rfl, [], rfl, rfl, fun _ z => nomatch z⟩ (by
      intro i d e hd hP
      have hi : i < many := by
        have := (List.getElem?_eq_some_iff.mp hd).1
        simpa [rangeD] using this
      have hd' : d = .int i := by
        simp [rangeD, hi] at hd
        exact hd.symm
      subst hd'
      obtain ⟨hl, e0, e1, e3, e5, lg, e9, hbl, hbk⟩ := hP
      rw [Nat.zero_add] at hbl ⊢
      have hinv : LogInv ns heads things at' i (e.set 10 (some (.p (.int i)))) := ⟨by simp [hl], by simp [e0], by simp [e1], by simp [e3], by simp [e5], lg, by simp [e9], hbl, hbk⟩
      obtain ⟨e', he', hinv'⟩ := log_turn ns heads things at' h0 hhl hhx gth (e.set 10 (some (.p (.int i)))) i (by omega) hinv (by simp [-getElem?_pos, hl])
      exact ⟨_, e', rfl, .inl he', hinv'⟩)
  obtain ⟨hl, _, _, _, _, lg, e9, hbl, hbk⟩ := hinv
  have hbl : lg.length = many := by simpa [rangeD] using hbl
  refine ⟨lg, things, ?_, by omega, by omega, gth, hbk⟩
  have key : Q.law_a_log [.sc ns, .p (.int at'), .p (.int most)] = some (.ml (lg.map fun b => T.p (enB b))) := by
    unfold Q.law_a_log
    refine run_of ?_
    rw [show startE 20 [T.sc ns, .p (.int at'), .p (.int most)] = [some (.sc ns), some (.p (.int at')), some (.p (.int most)), none, none, none, none, none, none, none, none, none, none, none, none, none, none, none, none, none] from rfl]
    refine oxE [some (.sc ns), some (.p (.int at')), some (.p (.int most)), some (.p (.list (enI heads))), none, none, none, none, none, none, none, none, none, none, none, none, none, none, none, none] (by simp [hc, hp]) ?_
    refine oxE [some (.sc ns), some (.p (.int at')), some (.p (.int most)), some (.p (.list (enI heads))), some (.p (.int many)), none, none, none, none, none, none, none, none, none, none, none, none, none, none, none] (by simp [q0, hm0, fm, hmany]) ?_
    refine oxE [some (.sc ns), some (.p (.int at')), some (.p (.int most)), some (.p (.list (enI heads))), some (.p (.int many)), some (mI []), none, none, none, none, none, none, none, none, none, none, none, none, none, none] (by simp [L0, mI, enI]) ?_
    refine oxE [some (.sc ns), some (.p (.int at')), some (.p (.int most)), some (.p (.list (enI heads))), some (.p (.int many)), some (mI []), some (.p (.list (enI more))), none, none, none, none, none, none, none, none, none, none, none, none, none] (by simp [hc2, hq]) ?_
    refine oxE [some (.sc ns), some (.p (.int at')), some (.p (.int most)), some (.p (.list (enI heads))), some (.p (.int many)), some (mI things), some (.p (.list (enI more))), o7, o8, none, none, none, none, none, none, none, none, none, none, none] (by
      have hz : xs1.length + xs2.length ≤ LIM := by unfold LIM; omega
      rw [← he]
      simp [q13, q18, f11, f3, hhi1, hx1, hm40, hx2, enI_length, hz, hsum]) ?_
    have hfz : ∀ m : SM, sFrz 5 m [some (.sc ns), some (.p (.int at')), some (.p (.int most)), some (.p (.list (enI heads))), some (.p (.int many)), some (mI things), some (.p (.list (enI more))), o7, o8, none, none, none, none, none, none, none, none, none, none, none] = m [some (.sc ns), some (.p (.int at')), some (.p (.int most)), some (.p (.list (enI heads))), some (.p (.int many)), some (.p (.list (enI things))), some (.p (.list (enI more))), o7, o8, none, none, none, none, none, none, none, none, none, none, none] := by
      intro m
      simp [snap_mI]
    rw [hfz]
    refine oxE [some (.sc ns), some (.p (.int at')), some (.p (.int most)), some (.p (.list (enI heads))), some (.p (.int many)), some (.p (.list (enI things))), some (.p (.list (enI more))), o7, o8, some (.ml []), none, none, none, none, none, none, none, none, none, none] (by simp [L0]) ?_
    refine oxE e2 (by rw [← he2]; simp [hs]) ?_
    exact ⟨_, by simp [-getElem?_pos, e9] <;> rfl, rfl⟩
  exact callT_snap rfl key (snap_bk lg)
end B
namespace C
open PySem PySem.Spec PyProof.Rows L2 M N B

/-- a log that can be told of -/
structure LogOk (lg : List Buy) : Prop where
  ch : ∀ b ∈ lg, GoodCh b
  few : ∃ th : List Int, th.length < 64 ∧ ∀ b ∈ lg, ∀ x ∈ b.1, x ∈ th
def off (lg : List Buy) (k : Nat) : Bool := lg.any fun b => decide ((k : Int) ∈ b.1)
def plc (lg : List Buy) : List Nat := (List.range 100).filter (off lg)
theorem off_iff {lg : List Buy} {k : Nat} : off lg k = true ↔ ∃ b ∈ lg, (k : Int) ∈ b.1 := by simp [off]
theorem mem_plc {lg : List Buy} {k : Nat} : k ∈ plc lg ↔ k < 100 ∧ ∃ b ∈ lg, (k : Int) ∈ b.1 := by simp [plc, off]
theorem plc_sorted (lg : List Buy) : (plc lg).Pairwise (· < ·) := List.Pairwise.filter _ List.pairwise_lt_range
theorem plc_nodup (lg : List Buy) : (plc lg).Nodup := (plc_sorted lg).imp fun h => by omega
theorem natI_sorted {xs : List Nat} (h : xs.Pairwise (· < ·)) : (natI xs).Pairwise (· < ·) := by
  unfold natI; rw [List.pairwise_map]; exact h.imp fun h => by omega
theorem natI_nodup {xs : List Nat} (h : xs.Nodup) : (natI xs).Nodup := by
  unfold natI; exact List.pairwise_map.mpr (h.imp fun h e => h (by omega))
theorem Dk.mem {n : Nat} {b : List (Key × D)} {f : Nat → Option D} (h : Dk n b f) {k : Nat} : (∃ d, ((.inl (k : Int) : Key), d) ∈ b) ↔ f k ≠ none := by
  rw [← h.val k]
  unfold valD
  constructor
  · rintro ⟨d, hd⟩
    cases e : b.find? fun kv => decide (kv.1 = .inl (k : Int)) with
    | none => rw [List.find?_eq_none] at e; have := e _ hd; simp at this
    | some x => simp
  · intro h
    cases e : b.find? fun kv => decide (kv.1 = .inl (k : Int)) with
    | none => rw [e] at h; simp at h
    | some x =>
      have h1 := List.find?_some e
      have h2 := List.mem_of_find?_eq_some e
      simp only [decide_eq_true_eq] at h1
      exact ⟨x.2, by rw [← h1]; exact h2⟩
theorem intKeys_of {n : Nat} : ∀ {b : List (Key × D)}, (∀ kv ∈ b, ∃ v : Nat, v < n ∧ kv.1 = .inl (v : Int)) → ∃ ks : List Nat, intKeys b = some (natI ks) ∧ b.map (·.1) = ks.map fun (k : Nat) => (.inl (k : Int) : Key)
  | [], _ => ⟨[], rfl, rfl⟩
  | (k, d) :: r, h => by
    obtain ⟨v, hv, e⟩ := h (k, d) List.mem_cons_self
    obtain ⟨ks, h1, h2⟩ := intKeys_of fun kv hkv => h kv (List.mem_cons_of_mem _ hkv)
    simp only at e
    subst e
    exact ⟨v :: ks, by simp only [intKeys, h1, Option.map_some]; rfl, by simp only [List.map_cons, h2]⟩
/-- sorted(d): the keys, rising -/
theorem sort_dict {n : Nat} {b : List (Key × D)} {f : Nat → Option D} (h : Dk n b f) {ys : List Nat} (hy : ys.Pairwise (· < ·)) (hm : ∀ k, k ∈ ys ↔ f k ≠ none) (hl : ys.length < 64) : xsortD b = some (.list (enI (natI ys))) := by
  obtain ⟨ks, h1, h2⟩ := intKeys_of h.ks
  have nd : ks.Nodup := by
    have := h.nd
    rw [h2] at this
    exact (List.pairwise_map.mp this).imp fun h e => h (by rw [e])
  have mem : ∀ k, k ∈ ks ↔ k ∈ ys := fun k => by
    rw [hm k, ← h.mem]
    constructor
    · intro hk
      have : (.inl (k : Int) : Key) ∈ b.map (·.1) := by rw [h2]; exact List.mem_map.mpr ⟨k, hk, rfl⟩
      obtain ⟨kv, hkv, e⟩ := List.mem_map.mp this
      exact ⟨kv.2, by rw [← e]; exact hkv⟩
    · rintro ⟨d, hd⟩
      have : (.inl (k : Int) : Key) ∈ b.map (·.1) := List.mem_map.mpr ⟨_, hd, rfl⟩
      rw [h2] at this
      obtain ⟨k', hk', e⟩ := List.mem_map.mp this
      have e2 : (k' : Int) = k := Sum.inl.inj e
      have : k' = k := by omega
      exact this ▸ hk'
  have len : ks.length = ys.length := ((List.perm_ext_iff_of_nodup nd (hy.imp fun h => by omega)).mpr mem).length_eq
  have srt : sortI (natI ks) = natI ys := by
    refine sort_eq (natI_nodup nd) (natI_sorted hy) fun a => ?_
    unfold natI
    simp only [List.mem_map]
    constructor
    · rintro ⟨x, hx, rfl⟩; exact ⟨x, (mem x).mp hx, rfl⟩
    · rintro ⟨x, hx, rfl⟩; exact ⟨x, (mem x).mpr hx, rfl⟩
  unfold xsortD
  have hl' : (natI ks).length < 64 := by unfold natI; simp; omega
  rw [h1, Option.bind_some, if_pos hl', srt]
  rfl
theorem plc_few {lg : List Buy} (h : LogOk lg) : (plc lg).length < 64 := by
  obtain ⟨th, h1, h2⟩ := h.few
  have := nodup_le (l := natI (plc lg)) (m := th) (natI_nodup (plc_nodup lg)) fun x hx => by
    unfold natI at hx
    obtain ⟨k, hk, rfl⟩ := List.mem_map.mp hx
    obtain ⟨_, b, hb, hm⟩ := mem_plc.mp hk
    exact h2 b hb _ hm
  unfold natI at this
  simp at this
  omega
theorem things_in {lg : List Buy} (h : LogOk lg) : P.things_in (enBk lg) = some (.list (enI (natI (plc lg)))) := by
  have tr : (PyData.bool true) ≠ PyData.none := by simp
  have key := fold_map (step := fun s d => un2 d fun x y => P.things_in_L2 s x y) enB (fun i s => Dk 100 s (fun k => if off (lg.take i) k then some (.bool true) else none)) lg [] (by
    have : (fun k => if off (lg.take 0) k then some (PyData.bool true) else none) = fun _ => none := by funext k; simp [off]
    rw [this]; exact Dk.nil 100) (fun i hi s hs => by
    have g := h.ch _ (List.getElem_mem hi)
    have inner := fold_map (step := fun s d => P.things_in_L1 s d) PyData.int (fun j s => Dk 100 s (fun k => if off (lg.take i) k || decide ((k : Int) ∈ (lg[i].1).take j) then some (.bool true) else none)) lg[i].1 s (by simpa using hs) (fun j hj s hs => by
      obtain ⟨r1, r2⟩ := g.rng _ (List.getElem_mem hj)
      obtain ⟨v, hv⟩ : ∃ v : Nat, (lg[i].1)[j] = v := ⟨((lg[i].1)[j]).toNat, by omega⟩
      obtain ⟨b', e1, e2⟩ := hs.put (v := v) (by omega) (by decide) (.bool true)
      refine ⟨b', ?_, ?_⟩
      · unfold P.things_in_L1
        rw [hv]
        simp only [Option.bind_some, e1]
      · have : (fun k => if (off (lg.take i) k || decide ((k : Int) ∈ (lg[i].1).take (j + 1))) = true then some (PyData.bool true) else none) = fun k => if k = v then some (.bool true) else (if (off (lg.take i) k || decide ((k : Int) ∈ (lg[i].1).take j)) = true then some (.bool true) else none) := by
          funext k
          rw [List.take_succ, List.getElem?_eq_getElem hj, hv]
          by_cases hk : k = v
          · subst hk; simp
          · have hk' : ¬ ((k : Int) = v) := by omega
            simp [hk, hk']
        rw [this]; exact e2)
    obtain ⟨s', k1, k2⟩ := inner
    refine ⟨s', ?_, ?_⟩
    · unfold enB P.things_in_L2
      rw [c_un2]
      simp only [c_iseq2]
      unfold enI
      simp only [Option.bind_some, k1]
    · have : (fun k => if off (lg.take (i + 1)) k = true then some (PyData.bool true) else none) = fun k => if (off (lg.take i) k || decide ((k : Int) ∈ (lg[i].1).take lg[i].1.length)) = true then some (.bool true) else none := by
        funext k
        rw [List.take_succ, List.getElem?_eq_getElem hi, List.take_length]
        simp only [off, Option.toList_some, List.any_append, List.any_cons, List.any_nil, Bool.or_false]
        congr
      rw [this]; exact k2)
  obtain ⟨s, k1, k2⟩ := key
  rw [List.take_length] at k2
  unfold P.things_in enBk
  simp only [Option.bind_some, c_iseq1, k1]
  refine sort_dict k2 (plc_sorted lg) (fun k => ?_) (plc_few h)
  rw [mem_plc]
  constructor
  · rintro ⟨_, h2⟩
    simp [off_iff.mpr h2]
  · intro h2
    have h3 : off lg k = true := by
      cases e : off lg k with
      | true => rfl
      | false => simp [e] at h2
    obtain ⟨b, hb, hm⟩ := off_iff.mp h3
    exact ⟨by have := (h.ch b hb).rng _ hm; omega, b, hb, hm⟩
theorem idx_of {ys : List Nat} (hy : ys.Nodup) {j : Nat} (hj : j < ys.length) : op2 idxOfT (.list (enI (natI ys))) (.int (ys[j] : Int)) = some (.int (j : Int)) := by
  have s1 : SeqAt.shaped (.list (enI (natI ys))) = true := Pln.shaped (n := 1) (pln_ints _) (by decide)
  have s2 : SeqAt.shaped (.int (ys[j] : Int)) = true := Pln.shaped (n := 0) (by simp [Pln]) (by decide)
  have hf : (enI (natI ys)).findIdx? (fun z => PyData.eqv z (.int (ys[j] : Int))) = some j := by
    rw [List.findIdx?_eq_some_iff_getElem]
    refine ⟨by simpa [enI, natI] using hj, by simp [enI, natI, PyData.eqv], fun i hi => ?_⟩
    have hne : ys[i]'(by omega) ≠ ys[j] := fun e => by
      have := (List.pairwise_iff_getElem.mp hy) i j (by omega) hj hi
      exact this e
    have hne' : ¬ (((ys[i]'(by omega) : Nat) : Int) = (ys[j] : Int)) := by omega
    simp [enI, natI, PyData.eqv, hne']
  simp only [op2, idxOfT, T.snap, Option.bind_some, s1, s2, and_self, if_true, hf, Option.map_some, T.pure?]
end C
namespace C
open PySem PySem.Spec PyProof.Rows L2 M N B

abbrev BF2 := Nat → Nat → Bool
def bm (m : Nat) (f : BF2) : List (List D) := (List.range m).map fun i => (List.range m).map fun j => PyData.bool (f i j)
theorem bm_enW (m : Nat) (f : BF2) : PyData.list ((bm m f).map PyData.list) = enW (bRows m f) := by
  simp [bm, enW, bRows, enBl, List.map_map, Function.comp_def]
def updB (f : BF2) (i j : Nat) : BF2 := fun a b => if a = i ∧ b = j then true else f a b
theorem set_bm {m : Nat} {f : BF2} {i j : Nat} (hi : i < m) (hj : j < m) : set2 (bm m f) (.int (i : Int)) (.int (j : Int)) (.bool true) = some (bm m (updB f i j)) := by
  unfold set2 setL bm
  simp only [c_intD, Option.bind_some, List.length_map, List.length_range]
  rw [ixN_of (by omega) (by omega)]
  simp only [Option.bind_some, Int.toNat_natCast, List.getElem?_map, List.getElem?_range hi, Option.map_some, List.length_map, List.length_range]
  rw [ixN_of (by omega) (by omega)]
  simp only [Option.map_some, Int.toNat_natCast, Option.some.injEq]
  refine List.ext_getElem (by simp) fun a h1 h2 => ?_
  simp only [List.getElem_set, List.getElem_map, List.getElem_range]
  by_cases ea : i = a
  · subst ea
    rw [if_pos rfl]
    refine List.ext_getElem (by simp) fun b h3 h4 => ?_
    simp only [List.getElem_set, List.getElem_map, List.getElem_range, updB]
    by_cases eb : j = b
    · subst eb; simp
    · have : ¬ b = j := fun z => eb z.symm
      simp [eb, this]
  · rw [if_neg ea]
    have : ¬ a = i := fun z => ea z.symm
    refine List.map_congr_left fun b hb => ?_
    simp [updB, this]
theorem notIn_t {x : Int} {xs : List Int} : op2 notInT (.int x) (.tuple (enI xs)) = some (.bool (!decide (x ∈ xs))) := by
  have h1 : (enI xs).all flatD = true := by simp [enI, flatD]
  have h2 : (enI xs).any (fun z => PyData.eqv z (.int x)) = decide (x ∈ xs) := by
    rw [Bool.eq_iff_iff]
    simp only [enI, List.any_map, List.any_eq_true, decide_eq_true_eq]
    constructor
    · rintro ⟨y, hy, e⟩
      have : y = x := by simpa [PyData.eqv] using e
      exact this ▸ hy
    · exact fun h => ⟨x, h, by simp [PyData.eqv]⟩
  have hf : flatD (.int x) = true := rfl
  simp only [op2, notInT, ev_pure, Option.bind_some, ev_anyt, hf, h1, and_self, if_true, h2]
def pI (lg : List Buy) (i : Nat) : Int := ((plc lg).getD i 0 : Nat)
theorem pI_at {lg : List Buy} {i : Nat} (h : i < (plc lg).length) : pI lg i = ((plc lg)[i] : Nat) := by
  unfold pI; rw [List.getD_eq_getElem?_getD, List.getElem?_eq_getElem h]; rfl
theorem pI_inj {lg : List Buy} {i j : Nat} (hi : i < (plc lg).length) (hj : j < (plc lg).length) (h : pI lg i = pI lg j) : i = j := by
  rw [pI_at hi, pI_at hj] at h
  have h : (plc lg)[i] = (plc lg)[j] := by omega
  have nd := List.pairwise_iff_getElem.mp (plc_nodup lg)
  rcases Nat.lt_trichotomy i j with z | z | z
  · exact absurd h (nd i j hi hj z)
  · exact z
  · exact absurd h.symm (nd j i hj hi z)
theorem pI_of {lg : List Buy} (h : LogOk lg) {b : Buy} (hb : b ∈ lg) {x : Int} (hx : x ∈ b.1) : ∃ i, i < (plc lg).length ∧ pI lg i = x := by
  have r := (h.ch b hb).rng x hx
  obtain ⟨k, rfl⟩ : ∃ k : Nat, x = k := ⟨x.toNat, by omega⟩
  have : k ∈ plc lg := mem_plc.mpr ⟨by omega, b, hb, hx⟩
  obtain ⟨i, hi, e⟩ := List.mem_iff_getElem.mp this
  exact ⟨i, hi, by rw [pI_at hi, e]⟩
theorem pI_off {lg : List Buy} {i : Nat} (hi : i < (plc lg).length) : ∃ b ∈ lg, pI lg i ∈ b.1 := by
  rw [pI_at hi]; exact (mem_plc.mp (List.getElem_mem hi)).2
theorem idx_pI {lg : List Buy} {i : Nat} (hi : i < (plc lg).length) : op2 idxOfT (.list (enI (natI (plc lg)))) (.int (pI lg i)) = some (.int (i : Int)) := by
  rw [pI_at hi]; exact idx_of (plc_nodup lg) hi
/-- a step from thing to thing; a strict one -/
def St1 (lg : List Buy) (x y : Int) : Prop := x ≠ y ∧ ∃ b ∈ lg, x ∈ b.2 ∧ y ∈ b.1
def St2 (lg : List Buy) (x y : Int) : Prop := x ≠ y ∧ ∃ b ∈ lg, x ∈ b.2 ∧ y ∈ b.1 ∧ y ∉ b.2
structure WInv (lg : List Buy) (A B : Int → Int → Prop) (s : List (List D) × List (List D)) : Prop where
  ex : ∃ f g : BF2, s = (bm (plc lg).length f, bm (plc lg).length g) ∧ ∀ i j, i < (plc lg).length → j < (plc lg).length → (f i j = true ↔ A (pI lg i) (pI lg j)) ∧ (g i j = true ↔ B (pI lg i) (pI lg j))
theorem WInv.congr {lg : List Buy} {A B A' B' : Int → Int → Prop} {s : List (List D) × List (List D)} (h : WInv lg A B s) (ha : ∀ x y, A x y ↔ A' x y) (hb : ∀ x y, B x y ↔ B' x y) : WInv lg A' B' s := by
  obtain ⟨f, g, e, h⟩ := h.ex
  exact ⟨f, g, e, fun i j hi hj => ⟨(h i j hi hj).1.trans (ha _ _), (h i j hi hj).2.trans (hb _ _)⟩⟩
theorem log_ways {lg : List Buy} (h : LogOk lg) : ∃ f g : BF2, P.log_ways (enBk lg) (.list (enI (natI (plc lg)))) = some (.tuple [enW (bRows (plc lg).length f), enW (bRows (plc lg).length g)]) ∧
    ∀ i j, i < (plc lg).length → j < (plc lg).length → (f i j = true ↔ St1 lg (pI lg i) (pI lg j)) ∧ (g i j = true ↔ St2 lg (pI lg i) (pI lg j)) := by
  obtain ⟨m, hm⟩ : ∃ m, (plc lg).length = m := ⟨_, rfl⟩
  have hfew := plc_few h
  have hlen : (lenT [.p (.list (enI (natI (plc lg))))]).bind T.pure? = some (.int (m : Int)) := by simp [lenT, T.kids, T.pure?, enI, natI, hm]
  have hr : rep62 [PyData.bool false].length (m : Int) := ⟨by omega, by omega, by simp [LIM]; omega⟩
  have hrep : (List.replicate m [PyData.bool false]).flatten = (List.range m).map fun _ => PyData.bool false := by
    clear hr hlen hm hfew
    induction m with
    | zero => rfl
    | succ n ih => rw [List.replicate_succ', List.flatten_append, ih, List.range_succ, List.map_append]; simp
  -- the empty tables
  have t0 : ∃ s, fold (fun s d => P.log_ways_L1 (.list (enI (natI (plc lg)))) s.1 s.2 d) (enI (natI (plc lg))) ([], []) = some s ∧ s = (bm m fun _ _ => false, bm m fun _ _ => false) := by
    have := fold_map (step := fun s d => P.log_ways_L1 (.list (enI (natI (plc lg)))) s.1 s.2 d) PyData.int (fun i s => s = ((List.range i).map fun _ => (List.range m).map fun _ => PyData.bool false, (List.range i).map fun _ => (List.range m).map fun _ => PyData.bool false)) (natI (plc lg)) ([], []) rfl (fun i hi s hs => by
      subst hs
      have hi' : i < m := by simpa [natI, hm] using hi
      have ap : ∀ y, apd2 ((List.range i).map fun _ => (List.range m).map fun _ => PyData.bool false) y = some (((List.range i).map fun _ => (List.range m).map fun _ => PyData.bool false) ++ [y]) := fun y => by
        unfold apd2; rw [if_pos (by simp [LIM]; omega)]
      refine ⟨_, ?_, rfl⟩
      unfold P.log_ways_L1
      simp only [c_xlst, c_xseq1, c_xseq0, Option.map_some, c_xf1, hlen, rep_of hr, Int.toNat_natCast, hrep, Option.bind_some, ap]
      rw [List.range_succ, List.map_append]
      rfl)
    obtain ⟨s, k1, k2⟩ := this
    refine ⟨s, k1, ?_⟩
    rw [k2]
    have : (natI (plc lg)).length = m := by simp [natI, hm]
    rw [this]; rfl
  obtain ⟨s0, z1, z2⟩ := t0
  have i0 : WInv lg (fun x y => x ≠ y ∧ ∃ b ∈ lg.take 0, x ∈ b.2 ∧ y ∈ b.1) (fun x y => x ≠ y ∧ ∃ b ∈ lg.take 0, x ∈ b.2 ∧ y ∈ b.1 ∧ y ∉ b.2) s0 := ⟨_, _, by rw [z2, hm], fun i j _ _ => by simp⟩
  have key := fold_map (step := fun s d => un2 d fun x y => P.log_ways_L4 (.list (enI (natI (plc lg)))) s.1 s.2 x y) enB (fun r s => WInv lg (fun x y => x ≠ y ∧ ∃ b ∈ lg.take r, x ∈ b.2 ∧ y ∈ b.1) (fun x y => x ≠ y ∧ ∃ b ∈ lg.take r, x ∈ b.2 ∧ y ∈ b.1 ∧ y ∉ b.2) s) lg s0 i0 (fun r hr s hs => by
    obtain ⟨b, hb⟩ : ∃ b, lg[r] = b := ⟨_, rfl⟩
    have hbm : b ∈ lg := hb ▸ List.getElem_mem hr
    have g := h.ch b hbm
    rw [hb]
    obtain ⟨A, hA⟩ : ∃ A : Int → Int → Prop, A = fun x y => x ≠ y ∧ ∃ b ∈ lg.take r, x ∈ b.2 ∧ y ∈ b.1 := ⟨_, rfl⟩
    obtain ⟨B', hB⟩ : ∃ B' : Int → Int → Prop, B' = fun x y => x ≠ y ∧ ∃ b ∈ lg.take r, x ∈ b.2 ∧ y ∈ b.1 ∧ y ∉ b.2 := ⟨_, rfl⟩
    rw [← hA, ← hB] at hs
    have mid := fold_map (step := fun s d => P.log_ways_L3 (.tuple (enI b.1)) (.list (enI (natI (plc lg)))) (.tuple (enI b.2)) s.1 s.2 d) PyData.int (fun a s => WInv lg (fun x y => A x y ∨ (x ≠ y ∧ x ∈ b.2.take a ∧ y ∈ b.1)) (fun x y => B' x y ∨ (x ≠ y ∧ x ∈ b.2.take a ∧ y ∈ b.1 ∧ y ∉ b.2)) s) b.2 s (hs.congr (by simp) (by simp)) (fun a ha s hs => by
      obtain ⟨i0, hi0, ei0⟩ := pI_of h hbm (g.sub _ (List.getElem_mem ha))
      have inn := fold_map (step := fun s d => P.log_ways_L2 (.int (b.2[a])) (.list (enI (natI (plc lg)))) (.tuple (enI b.2)) s.1 s.2 d) PyData.int (fun o s => WInv lg (fun x y => (A x y ∨ (x ≠ y ∧ x ∈ b.2.take a ∧ y ∈ b.1)) ∨ (x ≠ y ∧ x = b.2[a] ∧ y ∈ b.1.take o)) (fun x y => (B' x y ∨ (x ≠ y ∧ x ∈ b.2.take a ∧ y ∈ b.1 ∧ y ∉ b.2)) ∨ (x ≠ y ∧ x = b.2[a] ∧ y ∈ b.1.take o ∧ y ∉ b.2)) s) b.1 s (hs.congr (by simp) (by simp)) (fun o ho s hs => by
        obtain ⟨j0, hj0, ej0⟩ := pI_of h hbm (List.getElem_mem ho)
        obtain ⟨f, g2, rfl, hfg⟩ := hs.ex
        have e1 := idx_pI hi0
        have e2 := idx_pI hj0
        rw [ei0] at e1
        rw [ej0] at e2
        have tk : ∀ y, y ∈ b.1.take (o + 1) ↔ y ∈ b.1.take o ∨ y = b.1[o] := fun y => by
          rw [List.take_succ, List.getElem?_eq_getElem ho, List.mem_append, Option.toList_some, List.mem_singleton]
        unfold P.log_ways_L2
        by_cases hne : b.2[a] = b.1[o]
        · refine ⟨_, by simp [hne], ⟨f, g2, rfl, fun i j hi hj => ?_⟩⟩
          rw [(hfg i j hi hj).1, (hfg i j hi hj).2]
          constructor
          · constructor
            · rintro (z | ⟨z1, z2, z3⟩)
              · exact .inl z
              · exact .inr ⟨z1, z2, (tk _).mpr (.inl z3)⟩
            · rintro (z | ⟨z1, z2, z3⟩)
              · exact .inl z
              · rcases (tk _).mp z3 with z3 | z3
                · exact .inr ⟨z1, z2, z3⟩
                · exact absurd (by rw [z2, z3, hne]) z1
          · constructor
            · rintro (z | ⟨z1, z2, z3, z4⟩)
              · exact .inl z
              · exact .inr ⟨z1, z2, (tk _).mpr (.inl z3), z4⟩
            · rintro (z | ⟨z1, z2, z3, z4⟩)
              · exact .inl z
              · rcases (tk _).mp z3 with z3 | z3
                · exact .inr ⟨z1, z2, z3, z4⟩
                · exact absurd (by rw [z2, z3, hne]) z1
        · have hij : i0 ≠ j0 := fun z => hne (by rw [← ei0, ← ej0, z])
          have sA : ∀ i j, i < (plc lg).length → j < (plc lg).length → (updB f i0 j0 i j = true ↔ (A (pI lg i) (pI lg j) ∨ (pI lg i ≠ pI lg j ∧ pI lg i ∈ b.2.take a ∧ pI lg j ∈ b.1)) ∨ (pI lg i ≠ pI lg j ∧ pI lg i = b.2[a] ∧ pI lg j ∈ b.1.take (o + 1))) := fun i j hi hj => by
            unfold updB
            by_cases hz : i = i0 ∧ j = j0
            · rw [if_pos hz]
              simp only [true_iff]
              refine .inr ⟨?_, by rw [hz.1, ei0], (tk _).mpr (.inr (by rw [hz.2, ej0]))⟩
              rw [hz.1, hz.2, ei0, ej0]; exact hne
            · rw [if_neg hz, (hfg i j hi hj).1]
              constructor
              · rintro (z | ⟨z1, z2, z3⟩)
                · exact .inl z
                · exact .inr ⟨z1, z2, (tk _).mpr (.inl z3)⟩
              · rintro (z | ⟨z1, z2, z3⟩)
                · exact .inl z
                · rcases (tk _).mp z3 with z3 | z3
                  · exact .inr ⟨z1, z2, z3⟩
                  · exact absurd ⟨pI_inj hi hi0 (by rw [z2, ei0]), pI_inj hj hj0 (by rw [z3, ej0])⟩ hz
          by_cases hnt : b.1[o] ∈ b.2
          · refine ⟨(bm (plc lg).length (updB f i0 j0), bm (plc lg).length g2), ?_, ⟨_, _, rfl, fun i j hi hj => ⟨sA i j hi hj, ?_⟩⟩⟩
            · simp only [c_xop, c_nei, hne, decide_false, Bool.not_false, c_xbool, c_xif_t, e1, e2, Option.bind_some, set_bm hi0 hj0, notIn_t, hnt, decide_true, Bool.not_true, c_xif_f]
            · rw [(hfg i j hi hj).2]
              constructor
              · rintro (z | ⟨z1, z2, z3, z4⟩)
                · exact .inl z
                · exact .inr ⟨z1, z2, (tk _).mpr (.inl z3), z4⟩
              · rintro (z | ⟨z1, z2, z3, z4⟩)
                · exact .inl z
                · rcases (tk _).mp z3 with z3 | z3
                  · exact .inr ⟨z1, z2, z3, z4⟩
                  · exact absurd hnt (by rw [← z3]; exact z4)
          · refine ⟨(bm (plc lg).length (updB f i0 j0), bm (plc lg).length (updB g2 i0 j0)), ?_, ⟨_, _, rfl, fun i j hi hj => ⟨sA i j hi hj, ?_⟩⟩⟩
            · simp only [c_xop, c_nei, hne, decide_false, Bool.not_false, c_xbool, c_xif_t, e1, e2, Option.bind_some, set_bm hi0 hj0, notIn_t, hnt]
            · unfold updB
              by_cases hz : i = i0 ∧ j = j0
              · rw [if_pos hz]
                simp only [true_iff]
                refine .inr ⟨?_, by rw [hz.1, ei0], (tk _).mpr (.inr (by rw [hz.2, ej0])), by rw [hz.2, ej0]; exact hnt⟩
                rw [hz.1, hz.2, ei0, ej0]; exact hne
              · rw [if_neg hz, (hfg i j hi hj).2]
                constructor
                · rintro (z | ⟨z1, z2, z3, z4⟩)
                  · exact .inl z
                  · exact .inr ⟨z1, z2, (tk _).mpr (.inl z3), z4⟩
                · rintro (z | ⟨z1, z2, z3, z4⟩)
                  · exact .inl z
                  · rcases (tk _).mp z3 with z3 | z3
                    · exact .inr ⟨z1, z2, z3, z4⟩
                    · exact absurd ⟨pI_inj hi hi0 (by rw [z2, ei0]), pI_inj hj hj0 (by rw [z3, ej0])⟩ hz)
      obtain ⟨s', k1, k2⟩ := inn
      have tk : ∀ x, x ∈ b.2.take (a + 1) ↔ x ∈ b.2.take a ∨ x = b.2[a] := fun x => by
        rw [List.take_succ, List.getElem?_eq_getElem ha, List.mem_append, Option.toList_some, List.mem_singleton]
      refine ⟨s', ?_, k2.congr (fun x y => ?_) (fun x y => ?_)⟩
      · unfold P.log_ways_L3
        simp only [c_iseq2, Option.bind_some]
        unfold enI at k1 ⊢
        rw [k1]
        rfl
      · rw [List.take_length, tk]
        constructor
        · rintro ((z | z) | ⟨z1, z2, z3⟩)
          · exact .inl z
          · exact .inr ⟨z.1, .inl z.2.1, z.2.2⟩
          · exact .inr ⟨z1, .inr z2, z3⟩
        · rintro (z | ⟨z1, z2 | z2, z3⟩)
          · exact .inl (.inl z)
          · exact .inl (.inr ⟨z1, z2, z3⟩)
          · exact .inr ⟨z1, z2, z3⟩
      · rw [List.take_length, tk]
        constructor
        · rintro ((z | z) | ⟨z1, z2, z3⟩)
          · exact .inl z
          · exact .inr ⟨z.1, .inl z.2.1, z.2.2⟩
          · exact .inr ⟨z1, .inr z2, z3⟩
        · rintro (z | ⟨z1, z2 | z2, z3⟩)
          · exact .inl (.inl z)
          · exact .inl (.inr ⟨z1, z2, z3⟩)
          · exact .inr ⟨z1, z2, z3⟩)
    obtain ⟨s', k1, k2⟩ := mid
    have tk : ∀ c, c ∈ lg.take (r + 1) ↔ c ∈ lg.take r ∨ c = b := fun c => by
      rw [List.take_succ, List.getElem?_eq_getElem hr, hb, List.mem_append, Option.toList_some, List.mem_singleton]
    refine ⟨s', ?_, k2.congr (fun x y => ?_) (fun x y => ?_)⟩
    · unfold enB P.log_ways_L4
      rw [c_un2]
      simp only [c_iseq2, Option.bind_some]
      unfold enI at k1 ⊢
      rw [k1]
      rfl
    · rw [List.take_length, hA]
      constructor
      · rintro (⟨z1, c, z2, z3⟩ | ⟨z1, z2, z3⟩)
        · exact ⟨z1, c, (tk c).mpr (.inl z2), z3⟩
        · exact ⟨z1, b, (tk b).mpr (.inr rfl), z2, z3⟩
      · rintro ⟨z1, c, z2, z3⟩
        rcases (tk c).mp z2 with z2 | rfl
        · exact .inl ⟨z1, c, z2, z3⟩
        · exact .inr ⟨z1, z3⟩
    · rw [List.take_length, hB]
      constructor
      · rintro (⟨z1, c, z2, z3⟩ | ⟨z1, z2, z3⟩)
        · exact ⟨z1, c, (tk c).mpr (.inl z2), z3⟩
        · exact ⟨z1, b, (tk b).mpr (.inr rfl), z2, z3⟩
      · rintro ⟨z1, c, z2, z3⟩
        rcases (tk c).mp z2 with z2 | rfl
        · exact .inl ⟨z1, c, z2, z3⟩
        · exact .inr ⟨z1, z3⟩)
  obtain ⟨s, k1, k2⟩ := key
  rw [List.take_length] at k2
  obtain ⟨f, g, rfl, hfg⟩ := k2.ex
  refine ⟨f, g, ?_, hfg⟩
  unfold P.log_ways enBk
  have z1' : fold (fun s d => P.log_ways_L1 (.list (enI (natI (plc lg)))) s.1 s.2 d) (enI (natI (plc lg))) ([], []) = some (s0.1, s0.2) := z1
  have k1' : fold (fun s d => un2 d fun x y => P.log_ways_L4 (.list (enI (natI (plc lg)))) s.1 s.2 x y) (lg.map enB) (s0.1, s0.2) = some (bm (plc lg).length f, bm (plc lg).length g) := k1
  simp only [Option.bind_some, c_iseq1, z1', k1', c_xtup, c_xseq1, c_xseq0, Option.map_some, bm_enW]
end C
namespace C
open PySem PySem.Spec PyProof.Rows L2 M N B

def fS (S : Nat → Bool) : Nat → Option D := fun k => if S k then some (.bool true) else none
/-- the search so far: S found, wt still to be looked at -/
structure RS (m : Nat) (f : BF2) (i : Nat) (S : Nat → Bool) (b : List (Key × D)) (wt : List Nat) : Prop where
  dk : Dk m b (fS S)
  st : S i = true
  lt : ∀ k, S k = true → k < m
  rc : ∀ k, S k = true → Reach (Wb m f) i k
  ws : ∀ k ∈ wt, S k = true
  wn : wt.Nodup
  cl : ∀ k, S k = true → k ∉ wt → ∀ j, Wb m f k j → S j = true
theorem RS.full {m : Nat} {f : BF2} {i : Nat} {S : Nat → Bool} {b : List (Key × D)} (h : RS m f i S b []) {k : Nat} (r : Reach (Wb m f) i k) : S k = true := by
  induction r with
  | refl => exact h.st
  | step r w ih => exact h.cl _ ih (by simp) _ w
theorem pop_nat (wt : List Nat) (k : Nat) : popL (enI (natI (wt ++ [k]))) (-1) = some (enI (natI wt), .int (k : Int)) := by
  unfold popL
  have e : (enI (natI (wt ++ [k]))) = enI (natI wt) ++ [.int (k : Int)] := by simp [enI, natI]
  have hl : (enI (natI wt)).length = wt.length := by simp [enI, natI]
  have hx : ixN (enI (natI (wt ++ [k]))).length (-1) = some wt.length := by
    rw [e]; unfold ixN; simp [hl]; omega
  rw [hx]
  simp only [Option.bind_some]
  rw [e, ← hl, List.getElem?_append_right (Nat.le_refl _)]
  simp only [Nat.sub_self, List.getElem?_cons_zero, Option.map_some]
  rw [List.eraseIdx_append_of_length_le (Nat.le_refl _), Nat.sub_self]
  simp
theorem xdnin_of {m : Nat} {b : List (Key × D)} {S : Nat → Bool} (h : Dk m b (fS S)) (k : Nat) : xdnin b (some (.int (k : Int))) = some (.bool (!S k)) := by
  simp only [xdnin, Option.bind_some, keyOf?, Option.map_some, h.val k, fS]
  cases S k <;> rfl
theorem xdin_of {m : Nat} {b : List (Key × D)} {S : Nat → Bool} (h : Dk m b (fS S)) (k : Nat) : xdin b (some (.int (k : Int))) = some (.bool (S k)) := by
  simp only [xdin, Option.bind_some, keyOf?, Option.map_some, h.val k, fS]
  cases S k <;> rfl
def cnt (m : Nat) (S : Nat → Bool) : Nat := ((List.range m).filter fun k => !S k).length
theorem reach_turn {m : Nat} {f : BF2} (m100 : m ≤ 100) {i : Nat} {S : Nat → Bool} {b : List (Key × D)} {wt : List Nat} {k : Nat} (h : RS m f i S b (wt ++ [k])) :
    ∃ S' b' wt', P.reached_from_L2 (enW (bRows m f)) b (enI (natI (wt ++ [k]))) = some (b', enI (natI wt')) ∧ RS m f i S' b' wt' ∧ 2 * cnt m S' + wt'.length < 2 * cnt m S + (wt ++ [k]).length := by
  have sm : smallI (m : Int) := small_of (by omega) (by omega)
  have hk : k < m := h.lt k (h.ws k (by simp))
  have Sk : S k = true := h.ws k (by simp)
  have hlen : (lenT [.p (enW (bRows m f))]).bind T.pure? = some (.int (m : Int)) := by simp [lenT, T.kids, T.pure?, enW, bRows]
  have key := fold_range (step := fun s d => P.reached_from_L1 (enW (bRows m f)) (enI (natI wt), .int (k : Int)) s.1 s.2 d) (fun n s => ∃ S' b' r, s = (b', enI (natI (wt ++ r))) ∧ Dk m b' (fS S') ∧ (∀ x, S x = true → S' x = true) ∧ (∀ x, S' x = true → S x = true ∨ x ∈ r) ∧ (∀ x ∈ r, S' x = true ∧ S x = false ∧ Wb m f k x) ∧ r.Nodup ∧ (∀ x ∈ r, x < n) ∧ ∀ j, j < n → f k j = true → S' j = true) m (b, enI (natI wt)) ⟨S, b, [], by simp, h.dk, fun _ z => z, fun _ z => .inl z, by simp, by simp, by simp, by simp⟩ (fun j s hj hs => by
    obtain ⟨S', b', r, rfl, dk, mono, cov, new, nd, rlt, cl⟩ := hs
    have hl : (enI (natI (wt ++ r))).length ≤ 1000 ∨ True := .inr trivial
    unfold P.reached_from_L1
    simp only [c_xop, ix_W hk, ix_Wr hj, c_xbool, c_xand, xdnin_of dk]
    have keep : (f k j = true → S' j = true) → ∃ s', some (b', enI (natI (wt ++ r))) = some s' ∧ ∃ S' b' r, s' = (b', enI (natI (wt ++ r))) ∧ Dk m b' (fS S') ∧ (∀ x, S x = true → S' x = true) ∧ (∀ x, S' x = true → S x = true ∨ x ∈ r) ∧ (∀ x ∈ r, S' x = true ∧ S x = false ∧ Wb m f k x) ∧ r.Nodup ∧ (∀ x ∈ r, x < j + 1) ∧ ∀ x, x < j + 1 → f k x = true → S' x = true := fun hc =>
      ⟨_, rfl, S', b', r, rfl, dk, mono, cov, new, nd, fun x hx => by have := rlt x hx; omega, fun x hx hf => by
        rcases Nat.lt_succ_iff_lt_or_eq.mp hx with z | rfl
        · exact cl x z hf
        · exact hc hf⟩
    by_cases hf : f k j = true
    · by_cases hS : S' j = true
      · obtain ⟨s', e1, e2⟩ := keep fun _ => hS
        refine ⟨s', ?_, e2⟩
        rw [← e1]
        simp [hf, hS]
      · have hS : S' j = false := by simpa using hS
        obtain ⟨b2, p1, p2⟩ := dk.put hj (by omega) (.bool true)
        have wn' := List.nodup_append.mp h.wn
        have nd2 : (wt ++ r).Nodup := List.nodup_append.mpr ⟨wn'.1, nd, fun a ha c hc e => by
          have z1 := h.ws a (List.mem_append_left _ ha)
          have z2 := (new c hc).2.1
          rw [e, z2] at z1; cases z1⟩
        have hw : (wt ++ r).length ≤ m := by
          have := nodup_le nd2 (m := List.range m) fun x hx => List.mem_range.mpr (by
            rcases List.mem_append.mp hx with z | z
            · exact h.lt x (h.ws x (by simp [z]))
            · exact (new x z).2.2.2.1)
          simpa using this
        have hl2 : (enI (natI (wt ++ r))).length ≤ 1000 := by simp [enI, natI] at hw ⊢; omega
        have hSj : S j = false := by
          cases e : S j with
          | false => rfl
          | true => rw [mono j e] at hS; cases hS
        refine ⟨(b2, enI (natI (wt ++ (r ++ [j])))), ?_, fun x => if x = j then true else S' x, b2, r ++ [j], rfl, ?_, fun x hx => ?_, fun x hx => ?_, fun x hx => ?_, ?_, fun x hx => ?_, fun x hx hfx => ?_⟩
        · simp only [hf, hS, c_xif_t, c_xbool, Bool.not_false, Option.bind_some, p1, apd_of hl2]
          simp [enI, natI]
        · have : fS (fun x => if x = j then true else S' x) = fun x => if x = j then some (.bool true) else fS S' x := by
            funext x; unfold fS; by_cases e : x = j <;> simp [e]
          rw [this]; exact p2
        · by_cases e : x = j
          · simp [e]
          · simp [e, mono x hx]
        · by_cases e : x = j
          · exact .inr (by simp [e])
          · simp only [e, if_false] at hx
            rcases cov x hx with z | z
            · exact .inl z
            · exact .inr (List.mem_append_left _ z)
        · rcases List.mem_append.mp hx with z | z
          · obtain ⟨n1, n2, n3⟩ := new x z
            exact ⟨by by_cases e : x = j <;> simp [e, n1], n2, n3⟩
          · simp at z; subst z
            exact ⟨by simp, hSj, hk, hj, hf⟩
        · rw [List.nodup_append]
          exact ⟨nd, by simp, fun a ha c hc e => by simp at hc; have := rlt a ha; omega⟩
        · rcases List.mem_append.mp hx with z | z
          · have := rlt x z; omega
          · simp at z; omega
        · rcases Nat.lt_succ_iff_lt_or_eq.mp hx with z | rfl
          · have := cl x z hfx
            by_cases e : x = j <;> simp [e, this]
          · simp
    · obtain ⟨s', e1, e2⟩ := keep fun z => absurd z hf
      refine ⟨s', ?_, e2⟩
      rw [← e1]
      simp [hf])
  obtain ⟨s, k1, S', b', r, rfl, dk, mono, cov, new, nd, rlt, cl⟩ := key
  have wn' := List.nodup_append.mp h.wn
  have lt' : ∀ x, S' x = true → x < m := fun x hx => by
    rcases cov x hx with z | z
    · exact h.lt x z
    · exact (new x z).2.2.2.1
  refine ⟨S', b', wt ++ r, ?_, ⟨dk, mono i h.st, lt', fun x hx => ?_, fun x hx => ?_, ?_, fun x hx hnw j hw => ?_⟩, ?_⟩
  · unfold P.reached_from_L2
    simp only [pop_nat, Option.bind_some, c_xf1, hlen, c_irng1, sm, if_true, k1]
  · rcases cov x hx with z | z
    · exact h.rc x z
    · exact .step (h.rc k Sk) (new x z).2.2
  · rcases List.mem_append.mp hx with z | z
    · exact mono x (h.ws x (by simp [z]))
    · exact (new x z).1
  · exact List.nodup_append.mpr ⟨wn'.1, nd, fun a ha c hc e => by
      have z1 := h.ws a (List.mem_append_left _ ha)
      have z2 := (new c hc).2.1
      rw [e, z2] at z1; cases z1⟩
  · by_cases e : x = k
    · subst e
      exact cl j hw.2.1 hw.2.2
    · rcases cov x hx with z | z
      · refine mono j (h.cl x z (fun hm => ?_) j hw)
        rcases List.mem_append.mp hm with hm | hm
        · exact hnw (List.mem_append_left _ hm)
        · simp at hm; exact e hm
      · exact absurd (List.mem_append_right _ z) hnw
  · -- fewer are left
    have hc : cnt m S' + r.length ≤ cnt m S := by
      have e : ((List.range m).filter fun x => !S x).length = ((List.range m).filter fun x => !S x).length := rfl
      unfold cnt
      have h1 : (((List.range m).filter fun x => !S' x) ++ r).length ≤ ((List.range m).filter fun x => !S x).length := by
        refine nodup_le (List.nodup_append.mpr ⟨List.Pairwise.filter _ List.nodup_range, nd, fun a ha c hc e => ?_⟩) fun x hx => ?_
        · have z1 := (List.mem_filter.mp ha).2
          have z2 := (new c hc).1
          rw [e, z2] at z1; cases z1
        · rcases List.mem_append.mp hx with z | z
          · obtain ⟨z1, z2⟩ := List.mem_filter.mp z
            refine List.mem_filter.mpr ⟨z1, ?_⟩
            cases e : S x with
            | false => rfl
            | true => rw [mono x e] at z2; cases z2
          · exact List.mem_filter.mpr ⟨List.mem_range.mpr (new x z).2.2.2.1, by rw [(new x z).2.1]; rfl⟩
      rw [List.length_append] at h1
      exact h1
    simp only [List.length_append, List.length_cons, List.length_nil]
    omega
/-- a loop by an invariant that tells its measure -/
theorem whl_ghost {S : Type} {cnd : S → Option Bool} {step : S → Option S} (I : Nat → S → Prop) (hs : ∀ n s, I n s → cnd s = some false ∨ (cnd s = some true ∧ ∃ s' n', step s = some s' ∧ I n' s' ∧ n' < n)) : ∀ fuel n s, I n s → n < fuel → ∃ s' n', whl cnd step fuel s = some s' ∧ I n' s' ∧ cnd s' = some false := by
  intro fuel
  induction fuel with
  | zero => intro n s _ h; omega
  | succ fuel ih =>
    intro n s hI hm
    rcases hs n s hI with h | ⟨h, s', n', h1, h2, h3⟩
    · exact ⟨s, n, by rw [whl, h, c_xif_f], hI, h⟩
    · obtain ⟨x, k, a, b, d⟩ := ih n' s' h2 (by omega)
      exact ⟨x, k, by rw [whl, h, c_xif_t, h1, Option.bind_some, a], b, d⟩
open Classical in
theorem reached_from {m : Nat} {f : BF2} (m100 : m ≤ 100) {i : Nat} (hi : i < m) : ∃ b, P.reached_from (enW (bRows m f)) (.int (i : Int)) = some (dD b) ∧ Dk m b (fS fun k => decide (Reach (Wb m f) i k)) := by
  have start : RS m f i (fun k => decide (k = i)) [(.inl (i : Int), .bool true)] [i] := by
    refine ⟨⟨by simp, fun kv hkv => ?_, fun v => ?_⟩, by simp, fun k hk => ?_, fun k hk => ?_, by simp, by simp, fun k hk hn => ?_⟩
    · simp at hkv; subst hkv; exact ⟨i, hi, rfl⟩
    · unfold fS valD
      by_cases e : v = i
      · subst e; simp
      · have : ¬ ((i : Int) = v) := by omega
        simp [e, this]
    · simp at hk; omega
    · simp at hk; subst hk; exact .refl
    · simp at hk hn; exact absurd hk hn
  have nd0 : ∀ wt : List Nat, P.reached_from_C2 ([] : List (Key × D)) (enI (natI wt)) = some (!wt.isEmpty) := fun wt => by
    unfold P.reached_from_C2
    simp only [c_xlst, c_xseq0, Option.map_some, c_xop, ne_nil_nat, c_xbool]
  have hcn : ∀ (b : List (Key × D)) (wt : List Nat), P.reached_from_C2 b (enI (natI wt)) = some (!wt.isEmpty) := fun b wt => nd0 wt
  obtain ⟨s, n', h1, ⟨S, b, wt, e, h2, _⟩, h3⟩ := whl_ghost (cnd := fun s => P.reached_from_C2 s.1 s.2) (step := fun s => P.reached_from_L2 (enW (bRows m f)) s.1 s.2) (fun n (s : List (Key × D) × List D) => ∃ S b wt, s = (b, enI (natI wt)) ∧ RS m f i S b wt ∧ 2 * cnt m S + wt.length = n) (by
      rintro n _ ⟨S, b, wt, rfl, h, hn⟩
      rcases List.eq_nil_or_concat wt with rfl | ⟨wt', k, rfl⟩
      · left; exact hcn b []
      · right
        rw [List.concat_eq_append] at h hn ⊢
        obtain ⟨S', b', w', e1, e2, e3⟩ := reach_turn m100 h
        refine ⟨?_, _, _, e1, ⟨S', b', w', rfl, e2, rfl⟩, by omega⟩
        rw [hcn]
        simp) FUEL _ ([(.inl (i : Int), .bool true)], enI (natI [i])) ⟨_, _, _, rfl, start, rfl⟩ (by
      have : cnt m (fun k => decide (k = i)) ≤ m := by
        unfold cnt
        have := List.length_filter_le (fun k => !decide (k = i)) (List.range m)
        simpa using this
      simp [FUEL]; omega)
  subst e
  have h3 : P.reached_from_C2 b (enI (natI wt)) = some false := h3
  rw [hcn] at h3
  have hw : wt = [] := by
    cases wt with
    | nil => rfl
    | cons x r => simp at h3
  subst hw
  refine ⟨b, ?_, ?_⟩
  · have h1' : whl (fun s => P.reached_from_C2 s.1 s.2) (fun s => P.reached_from_L2 (enW (bRows m f)) s.1 s.2) FUEL ([(.inl (i : Int), PyData.bool true)], [PyData.int (i : Int)]) = some (b, []) := h1
    unfold P.reached_from
    simp only [xdone, Option.bind_some, keyOf?, Option.map_some, c_xseq1, c_xseq0, h1']
  · have : (fS fun k => decide (Reach (Wb m f) i k)) = fS S := by
      funext k
      unfold fS
      have : decide (Reach (Wb m f) i k) = S k := by
        rw [Bool.eq_iff_iff]
        simp only [decide_eq_true_eq]
        exact ⟨fun r => h2.full r, fun z => h2.rc k z⟩
      simp only [this]
    rw [this]; exact h2.dk
end C
namespace C
open PySem PySem.Spec PyProof.Rows L2 M N B

/-- what a choosing asks of ranks -/
def RankOk (r : Int → Nat) (b : Buy) : Prop := ∀ x ∈ b.1, (x ∈ b.2 ↔ ∀ y ∈ b.1, r x ≤ r y)
def HasLv (lg : List Buy) : Prop := ∃ r : Int → Nat, ∀ b ∈ lg, RankOk r b
/-- levels by ranks: level i holds the things of rank i, rising -/
structure LvOk (lg : List Buy) (ls : List (List Int)) (r : Int → Nat) : Prop where
  ok : ∀ b ∈ lg, RankOk r b
  at' : ∀ (i : Nat) (l : List Int), ls[i]? = some l → l ≠ [] ∧ l.Pairwise (· < ·) ∧ ∀ x, x ∈ l ↔ ((∃ b ∈ lg, x ∈ b.1) ∧ r x = i)
  all : ∀ b ∈ lg, ∀ x ∈ b.1, r x < ls.length
/-- a round of things that bars -/
structure RndL (lg : List Buy) (xs : List Int) : Prop where
  len : 2 ≤ xs.length
  nd : xs.Nodup
  st : ∀ i, i + 1 < xs.length → St1 lg (xs.getD i 0) (xs.getD (i + 1) 0)
  bk : St2 lg (xs.getD (xs.length - 1) 0) (xs.getD 0 0)
def enLs (ls : List (List Int)) : D := .list (ls.map fun l => .list (enI l))
inductive ToldL (lg : List Buy) : D → Prop
  | levels (ls : List (List Int)) (r : Int → Nat) : LvOk lg ls r → ToldL lg (.tuple [.str "levels", enLs ls])
  | round (xs : List Int) : RndL lg xs → ToldL lg (.tuple [.str "round", .list (enI xs)])
open Classical in
/-- the levels so far, and what is left, by places -/
structure LV (m : Nat) (f : BF2) (Ls : List (List Nat)) (left : List Nat) : Prop where
  srt : left.Pairwise (· < ·)
  lt : ∀ k ∈ left, k < m
  lsr : ∀ L ∈ Ls, L ≠ [] ∧ L.Pairwise (· < ·) ∧ ∀ k ∈ L, k < m
  all : ∀ k, k < m → k ∈ left ∨ ∃ L ∈ Ls, k ∈ L
  dsj : ∀ k ∈ left, ∀ L ∈ Ls, k ∉ L
  ds2 : ∀ (i j : Nat) (Li Lj : List Nat), Ls[i]? = some Li → Ls[j]? = some Lj → i ≠ j → ∀ k ∈ Li, k ∉ Lj
  top : ∀ (i : Nat) (Li : List Nat), Ls[i]? = some Li → ∀ y ∈ Li, ∀ x, x < m → Reach (Wb m f) x y → ((∃ (j : Nat) (Lj : List Nat), j ≤ i ∧ Ls[j]? = some Lj ∧ x ∈ Lj) ∧ (x ∈ Li → Reach (Wb m f) y x))
open Classical in
theorem lv_turn {m : Nat} {f : BF2} {Ls : List (List Nat)} {left : List Nat} (h : LV m f Ls left) (hne : left ≠ []) :
    ∃ F L', F = left.filter (fun k => left.all fun j => !decide (Reach (Wb m f) j k) || decide (Reach (Wb m f) k j)) ∧ L' = left.filter (fun k => !decide (k ∈ F)) ∧ LV m f (Ls ++ [F]) L' ∧ L'.length < left.length := by
  obtain ⟨F, hF⟩ : ∃ F, F = left.filter (fun k => left.all fun j => !decide (Reach (Wb m f) j k) || decide (Reach (Wb m f) k j)) := ⟨_, rfl⟩
  have memF : ∀ k, k ∈ F ↔ k ∈ left ∧ ∀ j ∈ left, Reach (Wb m f) j k → Reach (Wb m f) k j := fun k => by
    rw [hF, List.mem_filter]
    simp only [List.all_eq_true, Bool.or_eq_true, Bool.not_eq_true', decide_eq_false_iff_not, decide_eq_true_eq]
    constructor
    · exact fun z => ⟨z.1, fun j hj r => (z.2 j hj).resolve_left (fun n => n r)⟩
    · exact fun z => ⟨z.1, fun j hj => by by_cases r : Reach (Wb m f) j k; exact .inr (z.2 j hj r); exact .inl r⟩
  have Fne : F ≠ [] := by
    obtain ⟨k0, hk0⟩ : ∃ k, k ∈ left := by
      cases left with
      | nil => exact absurd rfl hne
      | cons k r => exact ⟨k, List.mem_cons_self⟩
    obtain ⟨k, h1, h2⟩ := max_ex (R := Reach (Wb m f)) (fun a => .refl) (fun a b c => reach_trans) (lf := left) _ k0 hk0 rfl
    have : k ∈ F := (memF k).mpr ⟨h1, h2⟩
    intro e; rw [e] at this; simp at this
  have memL : ∀ k, k ∈ left.filter (fun k => !decide (k ∈ F)) ↔ k ∈ left ∧ k ∉ F := fun k => by simp [List.mem_filter]
  refine ⟨F, _, hF, rfl, ⟨h.srt.filter _, fun k hk => h.lt k ((memL k).mp hk).1, fun L hL => ?_, fun k hk => ?_, fun k hk L hL => ?_, fun i j Li Lj hi hj hij => ?_, fun i Li hi y hy x hx r => ?_⟩, ?_⟩
  · rcases List.mem_append.mp hL with z | z
    · exact h.lsr L z
    · simp at z; subst z
      exact ⟨Fne, by rw [hF]; exact h.srt.filter _, fun k hk => h.lt k ((memF k).mp hk).1⟩
  · rcases h.all k hk with z | ⟨L, hL, hk'⟩
    · by_cases e : k ∈ F
      · exact .inr ⟨F, by simp, e⟩
      · exact .inl ((memL k).mpr ⟨z, e⟩)
    · exact .inr ⟨L, List.mem_append_left _ hL, hk'⟩
  · obtain ⟨z1, z2⟩ := (memL k).mp hk
    rcases List.mem_append.mp hL with z | z
    · exact h.dsj k z1 L z
    · simp at z; subst z; exact z2
  · have hat : ∀ n L, (Ls ++ [F])[n]? = some L → (n < Ls.length ∧ Ls[n]? = some L) ∨ (n = Ls.length ∧ L = F) := fun n L e => by
      by_cases hn : n < Ls.length
      · rw [List.getElem?_append_left hn] at e; exact .inl ⟨hn, e⟩
      · rw [List.getElem?_append_right (by omega)] at e
        have : n - Ls.length = 0 := by
          apply Classical.byContradiction
          intro hz
          obtain ⟨q, hq⟩ : ∃ q, n - Ls.length = q + 1 := ⟨n - Ls.length - 1, by omega⟩
          rw [hq] at e; simp at e
        rw [this] at e
        simp at e
        exact .inr ⟨by omega, e.symm⟩
    intro k hk hkj
    rcases hat i Li hi with ⟨_, a⟩ | ⟨a1, a2⟩ <;> rcases hat j Lj hj with ⟨_, b⟩ | ⟨b1, b2⟩
    · exact h.ds2 i j Li Lj a b hij k hk hkj
    · subst b2; exact h.dsj k ((memF k).mp hkj).1 Li (List.mem_of_getElem? a) hk
    · subst a2; exact h.dsj k ((memF k).mp hk).1 Lj (List.mem_of_getElem? b) hkj
    · omega
  · by_cases hil : i < Ls.length
    · rw [List.getElem?_append_left hil] at hi
      obtain ⟨⟨j, Lj, a1, a2, a3⟩, a4⟩ := h.top i Li hi y hy x hx r
      exact ⟨⟨j, Lj, a1, by rw [List.getElem?_append_left (by omega)]; exact a2, a3⟩, a4⟩
    · rw [List.getElem?_append_right (by omega)] at hi
      have hz : i - Ls.length = 0 := by
        apply Classical.byContradiction
        intro hz
        obtain ⟨q, hq⟩ : ∃ q, i - Ls.length = q + 1 := ⟨i - Ls.length - 1, by omega⟩
        rw [hq] at hi; simp at hi
      rw [hz] at hi
      simp at hi
      subst hi
      have hi' : i = Ls.length := by omega
      obtain ⟨y1, y2⟩ := (memF y).mp hy
      refine ⟨?_, fun hxF => y2 x ((memF x).mp hxF).1 r⟩
      rcases h.all x hx with z | ⟨L, hL, hxL⟩
      · have ryx := y2 x z r
        have : x ∈ F := (memF x).mpr ⟨z, fun j hj rj => reach_trans r (y2 j hj (reach_trans rj r))⟩
        exact ⟨i, F, Nat.le_refl _, by rw [hi']; simp, this⟩
      · obtain ⟨n, hn, e⟩ := List.mem_iff_getElem.mp hL
        exact ⟨n, L, by omega, by rw [List.getElem?_append_left hn, List.getElem?_eq_getElem hn, e], hxL⟩
  · obtain ⟨k, hk⟩ : ∃ k, k ∈ F := by
      cases F with
      | nil => exact absurd rfl Fne
      | cons k r => exact ⟨k, List.mem_cons_self⟩
    have := filter_lt (p := fun k => !decide (k ∈ F)) (q := fun _ => true) (l := left) (by simp) ⟨k, ((memF k).mp hk).1, rfl, by simp [hk]⟩
    have e9 : left.filter (fun _ => true) = left := List.filter_eq_self.mpr (fun _ _ => rfl)
    rw [e9] at this
    exact this
/-- all levels told: ranks -/
theorem LV.rank {m : Nat} {f : BF2} {Ls : List (List Nat)} (h : LV m f Ls []) : ∃ r : Nat → Nat, (∀ i L, Ls[i]? = some L → ∀ k, k ∈ L ↔ k < m ∧ r k = i) ∧ (∀ k, k < m → r k < Ls.length) ∧ ∀ x y, x < m → y < m → Reach (Wb m f) x y → r x ≤ r y ∧ (r x = r y → Reach (Wb m f) y x) := by
  classical
  have ex : ∀ k, k < m → ∃ i, ∃ L, Ls[i]? = some L ∧ k ∈ L := fun k hk => by
    rcases h.all k hk with z | ⟨L, hL, hk'⟩
    · simp at z
    · obtain ⟨n, hn, e⟩ := List.mem_iff_getElem.mp hL
      exact ⟨n, L, by rw [List.getElem?_eq_getElem hn, e], hk'⟩
  let r : Nat → Nat := fun k => if hk : k < m then Classical.choose (ex k hk) else 0
  have rs : ∀ k (hk : k < m), ∃ L, Ls[r k]? = some L ∧ k ∈ L := fun k hk => by
    have e : r k = Classical.choose (ex k hk) := dif_pos hk
    rw [e]; exact Classical.choose_spec (ex k hk)
  have uniq : ∀ k i L, k < m → Ls[i]? = some L → k ∈ L → r k = i := fun k i L hk hi hL => by
    obtain ⟨L', a, b⟩ := rs k hk
    apply Classical.byContradiction
    intro hn
    exact h.ds2 (r k) i L' L a hi hn k b hL
  refine ⟨r, fun i L hi k => ⟨fun hk => ?_, fun ⟨hk, e⟩ => ?_⟩, fun k hk => ?_, fun x y hx hy rc => ?_⟩
  · have hk' := (h.lsr L (List.mem_of_getElem? hi)).2.2 k hk
    exact ⟨hk', uniq k i L hk' hi hk⟩
  · obtain ⟨L', a, b⟩ := rs k hk
    rw [e, hi] at a
    exact (Option.some.inj a) ▸ b
  · obtain ⟨L', a, b⟩ := rs k hk
    exact (List.getElem?_eq_some_iff.mp a).1
  · obtain ⟨Ly, a, b⟩ := rs y hy
    obtain ⟨⟨j, Lj, c1, c2, c3⟩, c4⟩ := h.top (r y) Ly a y b x hx rc
    have e := uniq x j Lj hx c2 c3
    refine ⟨by omega, fun he => c4 ?_⟩
    rw [← he, e, c2] at a
    exact (Option.some.inj a) ▸ c3
end C
namespace C
open PySem PySem.Spec PyProof.Rows L2 M N B

theorem at_things {lg : List Buy} {k : Nat} (h : k < (plc lg).length) : op2 idxT (.list (enI (natI (plc lg)))) (.int (k : Int)) = some (.int (pI lg k)) := by
  rw [getD_at (by simpa [natI] using h)]
  congr 2
  unfold pI natI
  simp [List.getD_eq_getElem?_getD, h]
theorem map_things {lg : List Buy} (p : List Nat) (hp : ∀ x ∈ p, x < (plc lg).length) (hl : p.length ≤ 1000) : xmap (fun k => op2 idxT (.list (enI (natI (plc lg)))) k) (some (enI (natI p))) = some (.list (enI (p.map (pI lg)))) := by
  rw [natI_map p, xmap_of (fun x : Nat => PyData.int (x : Int)) (fun k => .int (pI lg k)) p (by unfold LIM; omega) fun x hx => at_things (hp x hx)]
  unfold enI; rw [List.map_map]; rfl
/-- the round that is found -/
theorem rnd_of {lg : List Buy} {f g : BF2} (hfg : ∀ i j, i < (plc lg).length → j < (plc lg).length → (f i j = true ↔ St1 lg (pI lg i) (pI lg j)) ∧ (g i j = true ↔ St2 lg (pI lg i) (pI lg j))) {one other : Nat} (h1 : one < (plc lg).length) (h2 : other < (plc lg).length) (hs : g one other = true) {p : List Nat} (w : Way (Wb (plc lg).length f) other one p) (hp : ∀ x ∈ p, x < (plc lg).length) : RndL lg (p.map (pI lg)) := by
  have hst := (hfg one other h1 h2).2.mp hs
  have hne : one ≠ other := fun e => hst.1 (by rw [e])
  have len : 2 ≤ p.length := by
    match p, w with
    | [], w => exact absurd w.hd (by simp)
    | [z], w =>
      have a1 := w.hd; have a2 := w.lst
      simp at a1 a2; omega
    | _ :: _ :: _, _ => simp
  have gd : ∀ i, i < p.length → (p.map (pI lg)).getD i 0 = pI lg (p.getD i 0) := fun i hi => by
    simp [List.getD_eq_getElem?_getD, hi]
  have glt : ∀ i, i < p.length → p.getD i 0 < (plc lg).length := fun i hi => by
    rw [List.getD_eq_getElem?_getD, List.getElem?_eq_getElem hi]; exact hp _ (List.getElem_mem hi)
  refine ⟨by simpa using len, ?_, fun i hi => ?_, ?_⟩
  · exact List.pairwise_map.mpr (List.Pairwise.imp_of_mem (fun ha hb hn e => hn (pI_inj (hp _ ha) (hp _ hb) e)) w.nd)
  · simp only [List.length_map] at hi
    rw [gd i (by omega), gd (i + 1) hi]
    have := get_steps w.st i hi
    exact (hfg _ _ this.1 this.2.1).1.mp this.2.2
  · rw [List.length_map, gd _ (by omega), gd 0 (by omega)]
    have e1 : p.getD 0 0 = other := by
      have := w.hd
      cases p with
      | nil => simp at len
      | cons a r => simp at this; simp [this]
    have e2 : p.getD (p.length - 1) 0 = one := by
      have := w.lst
      rw [List.getLast?_eq_getElem?] at this
      rw [List.getD_eq_getElem?_getD, this]; rfl
    rw [e1, e2]; exact hst
/-- ranks of places are ranks of things -/
theorem lv_ok {lg : List Buy} (h : LogOk lg) {f g : BF2} (hfg : ∀ i j, i < (plc lg).length → j < (plc lg).length → (f i j = true ↔ St1 lg (pI lg i) (pI lg j)) ∧ (g i j = true ↔ St2 lg (pI lg i) (pI lg j)))
    (nb : ∀ i j, i < (plc lg).length → j < (plc lg).length → g i j = true → ¬ Reach (Wb (plc lg).length f) j i) {Ls : List (List Nat)} (hL : LV (plc lg).length f Ls []) : ∃ r, LvOk lg (Ls.map fun L => L.map (pI lg)) r := by
  classical
  obtain ⟨r, r1, r2, r3⟩ := hL.rank
  let pos : Int → Nat := fun x => if h : ∃ i, i < (plc lg).length ∧ pI lg i = x then Classical.choose h else 0
  have hpos : ∀ i, i < (plc lg).length → pos (pI lg i) = i := fun i hi => by
    have hx : ∃ k, k < (plc lg).length ∧ pI lg k = pI lg i := ⟨i, hi, rfl⟩
    have e : pos (pI lg i) = Classical.choose hx := dif_pos hx
    have := Classical.choose_spec hx
    rw [e]
    exact pI_inj this.1 hi this.2
  have le1 : ∀ i j, i < (plc lg).length → j < (plc lg).length → St1 lg (pI lg i) (pI lg j) → r i ≤ r j ∧ (r i = r j → Reach (Wb (plc lg).length f) j i) := fun i j hi hj s =>
    r3 i j hi hj (.step .refl ⟨hi, hj, (hfg i j hi hj).1.mpr s⟩)
  refine ⟨fun x => r (pos x), ⟨fun b hb x hx => ?_, fun i l hi => ?_, fun b hb x hx => ?_⟩⟩
  · obtain ⟨i, hi, rfl⟩ := pI_of h hb hx
    constructor
    · intro hxt y hy
      obtain ⟨j, hj, rfl⟩ := pI_of h hb hy
      simp only [hpos i hi, hpos j hj]
      by_cases e : i = j
      · rw [e]; exact Nat.le_refl _
      · exact (le1 i j hi hj ⟨fun z => e (pI_inj hi hj z), b, hb, hxt, hy⟩).1
    · intro hmin
      apply Classical.byContradiction
      intro hnt
      have gb := h.ch b hb
      obtain ⟨t, ht⟩ : ∃ t, t ∈ b.2 := by
        have := gb.t1
        cases hc : b.2 with
        | nil => rw [hc] at this; simp at this
        | cons t r => exact ⟨t, List.mem_cons_self⟩
      obtain ⟨k, hk, rfl⟩ := pI_of h hb (gb.sub t ht)
      have hne : pI lg k ≠ pI lg i := fun e => hnt (e ▸ ht)
      have s2 : g k i = true := (hfg k i hk hi).2.mpr ⟨hne, b, hb, ht, hx, hnt⟩
      obtain ⟨a1, a2⟩ := le1 k i hk hi ⟨hne, b, hb, ht, hx⟩
      have a3 := hmin _ (gb.sub _ ht)
      simp only [hpos i hi, hpos k hk] at a3
      exact nb k i hk hi s2 (a2 (by omega))
  · rw [List.getElem?_map, Option.map_eq_some_iff] at hi
    obtain ⟨L, e, rfl⟩ := hi
    obtain ⟨l1, l2, l3⟩ := hL.lsr L (List.mem_of_getElem? e)
    refine ⟨by simpa using l1, ?_, fun x => ?_⟩
    · refine List.pairwise_map.mpr (List.Pairwise.imp_of_mem (fun {a c} ha hc hlt => ?_) l2)
      rw [pI_at (l3 a ha), pI_at (l3 c hc)]
      have := (List.pairwise_iff_getElem.mp (plc_sorted lg)) a c (l3 a ha) (l3 c hc) hlt
      omega
    · constructor
      · intro hx
        obtain ⟨k, hk, rfl⟩ := List.mem_map.mp hx
        obtain ⟨z1, z2⟩ := (r1 i L e k).mp hk
        exact ⟨pI_off z1, by rw [hpos k z1]; exact z2⟩
      · rintro ⟨⟨b, hb, hx⟩, hr⟩
        obtain ⟨k, hk, rfl⟩ := pI_of h hb hx
        rw [hpos k hk] at hr
        exact List.mem_map.mpr ⟨k, (r1 i L e k).mpr ⟨hk, hr⟩, rfl⟩
  · obtain ⟨k, hk, rfl⟩ := pI_of h hb hx
    rw [hpos k hk, List.length_map]
    exact r2 k hk
set_option maxHeartbeats 1000000 in
theorem told_by_log {lg : List Buy} (h : LogOk lg) (hl1 : 1 ≤ lg.length) : ∃ d, P.told_by_log (enBk lg) = some d ∧ ToldL lg d := by
  classical
  obtain ⟨f, g, hw, hfg⟩ := log_ways h
  have hfew := plc_few h
  obtain ⟨m, hm⟩ : ∃ m, (plc lg).length = m := ⟨_, rfl⟩
  have hfg' := hfg
  rw [hm] at hfg hw hfew
  have sm : smallI (m : Int) := small_of (by omega) (by omega)
  have hlen : (lenT [.p (.list (enI (natI (plc lg))))]).bind T.pure? = some (.int (m : Int)) := by simp [lenT, T.kids, T.pure?, enI, natI, hm]
  -- the search for a round
  have key := foldC_range (step := fun s d => P.told_by_log_L2 (.int (m : Int)) (enW (bRows m g)) (enW (bRows m f)) (.list (enI (natI (plc lg)))) d) (fun i _ => ∀ u v, u < i → v < m → g u v = true → ¬ Reach (Wb m f) v u) (fun r => ToldL lg r) m () (by intro u v h; omega) (fun u _ hu hI => by
    have kin := foldC_range (step := fun s d => P.told_by_log_L1 (enW (bRows m g)) (.int (u : Int)) (enW (bRows m f)) (.list (enI (natI (plc lg)))) d) (fun i _ => ∀ v, v < i → g u v = true → ¬ Reach (Wb m f) v u) (fun r => ToldL lg r) m () (by intro v h; omega) (fun x _ hx hI2 => by
      obtain ⟨r, w1, w2, w3⟩ := p_way (n := m) f (by omega) hx hu
      unfold P.told_by_log_L1
      simp only [c_xop, ix_W hu, ix_Wr hx, c_xbool]
      cases ht : g u x with
      | false =>
        left
        refine ⟨(), by simp, fun v hv htv => ?_⟩
        rcases Nat.lt_succ_iff_lt_or_eq.mp hv with z | rfl
        · exact hI2 v z htv
        · rw [ht] at htv; cases htv
      | true =>
        simp only [c_xif_t, c_ap3, w1, Option.bind_some]
        cases r with
        | none =>
          left
          refine ⟨(), by simp [enR], fun v hv htv => ?_⟩
          rcases Nat.lt_succ_iff_lt_or_eq.mp hv with z | rfl
          · exact hI2 v z htv
          · intro hr; simp [← w3] at hr
        | some p =>
          right
          obtain ⟨y1, y2⟩ := w2 p rfl
          have hpl : p.length ≤ 1000 := by
            have := nodup_le y1.nd (m := List.range m) fun x hx => List.mem_range.mpr (y2 x hx)
            simp at this; omega
          refine ⟨.tuple [.str "round", .list (enI (p.map (pI lg)))], ?_, .round _ (rnd_of (one := u) (other := x) hfg' (by omega) (by omega) ht (by rw [hm]; exact y1) (by rw [hm]; exact y2))⟩
          simp only [enR, c_notnl, c_xbool, c_xif_t, c_iseq1, map_things p (by rw [hm]; exact y2) hpl, c_xtup, c_xseq1, c_xseq0, Option.map_some])
    rcases kin with ⟨s', k1, k2⟩ | ⟨r, k1, k2⟩
    · left
      refine ⟨(), ?_, fun a b ha hb htb => ?_⟩
      · unfold P.told_by_log_L2
        simp only [c_irng1, sm, if_true, Option.bind_some, k1, c_aft1]
      · rcases Nat.lt_succ_iff_lt_or_eq.mp ha with z | rfl
        · exact hI a b z hb htb
        · exact k2 b hb htb
    · right
      refine ⟨r, ?_, k2⟩
      unfold P.told_by_log_L2
      simp only [c_irng1, sm, if_true, Option.bind_some, k1, c_aft2])
  unfold P.told_by_log
  simp only [c_ap1, things_in h, Option.bind_some, c_ap2, hw, c_un2, c_xf1, hlen, c_irng1, sm, if_true]
  rcases key with ⟨s', k1, nb⟩ | ⟨r, k1, k2⟩
  · simp only [k1, c_aft1]
    have RB := fun i : Nat => fun hi : i < m => reached_from (f := f) (by omega : m ≤ 100) hi
    let bb : Nat → List (Key × D) := fun i => if hi : i < m then Classical.choose (RB i hi) else []
    have hbb : ∀ i, i < m → P.reached_from (enW (bRows m f)) (.int (i : Int)) = some (dD (bb i)) ∧ Dk m (bb i) (fS fun k => decide (Reach (Wb m f) i k)) := fun i hi => by
      have e : bb i = Classical.choose (RB i hi) := dif_pos hi
      rw [e]; exact Classical.choose_spec (RB i hi)
    have rch : xmap (fun one => P.reached_from (enW (bRows m f)) one) (some (rangeD 0 (m : Int))) = some (.list ((List.range m).map fun i => dD (bb i))) := xmap_range m _ (by unfold LIM; omega) fun i hi => (hbb i hi).1
    have ixR : ∀ i, i < m → op2 idxT (.list ((List.range m).map fun i => dD (bb i))) (.int (i : Int)) = some (dD (bb i)) := fun i hi => by rw [c_ixl, at_range hi]
    have hlr : (m : Int) ≤ 1000000 ∧ -1000000 ≤ (m : Int) := by omega
    have hcn : ∀ (lf : List Nat) (ls : List D), P.told_by_log_C3 (.list (enI (natI lf))) ls = some (!lf.isEmpty) := fun lf ls => by
      unfold P.told_by_log_C3
      simp only [c_xlst, c_xseq0, Option.map_some, c_xop, ne_nil_nat, c_xbool]
    have start : LV m f [] (List.range m) := ⟨List.pairwise_lt_range, fun k hk => List.mem_range.mp hk, by simp, fun k hk => .inl (List.mem_range.mpr hk), by simp, by simp, by simp⟩
    obtain ⟨s, n', h1, ⟨Ls, lf, e, hv, _⟩, h3⟩ := whl_ghost (cnd := fun s => P.told_by_log_C3 s.1 s.2) (step := fun s => P.told_by_log_L3 (.list ((List.range m).map fun i => dD (bb i))) (.list (enI (natI (plc lg)))) s.1 s.2) (fun n (s : D × List D) => ∃ Ls lf, s = (.list (enI (natI lf)), Ls.map fun L => .list (enI (L.map (pI lg)))) ∧ LV m f Ls lf ∧ lf.length = n) (by
      rintro n _ ⟨Ls, lf, rfl, hv, hn⟩
      cases lf with
      | nil => left; exact hcn [] _
      | cons x0 r0 =>
        right
        obtain ⟨lf, hlf⟩ : ∃ lf, x0 :: r0 = lf := ⟨_, rfl⟩
        have hne : lf ≠ [] := by rw [← hlf]; simp
        rw [hlf] at hv hn ⊢
        obtain ⟨F, L', eF, eL, hv', hlt⟩ := lv_turn hv hne
        have lfl : lf.length ≤ 1000 := by
          have := nodup_le (hv.srt.imp (fun h => by omega) : lf.Nodup) (m := List.range m) fun x hx => List.mem_range.mpr (hv.lt x hx)
          simp at this; omega
        have Fl : F.length ≤ 1000 := by rw [eF]; exact Nat.le_trans (List.length_filter_le _ _) lfl
        have Lsl : (Ls.map fun L => PyData.list (enI (L.map (pI lg)))).length ≤ 1000 := by
          have hd : (Ls.map fun L => L.headD 0).Nodup := by
            rw [List.Nodup, List.pairwise_map, List.pairwise_iff_getElem]
            intro i j hi hj hij e
            have li := hv.lsr _ (List.getElem_mem hi)
            have lj := hv.lsr _ (List.getElem_mem hj)
            have mi : Ls[i].headD 0 ∈ Ls[i] := by cases hc : Ls[i] with | nil => exact absurd hc li.1 | cons a r => simp
            have mj : Ls[j].headD 0 ∈ Ls[j] := by cases hc : Ls[j] with | nil => exact absurd hc lj.1 | cons a r => simp
            exact hv.ds2 i j _ _ (List.getElem?_eq_getElem hi) (List.getElem?_eq_getElem hj) (by omega) _ mi (by rw [e]; exact mj)
          have := nodup_le hd (m := List.range m) fun x hx => by
            obtain ⟨L, hL, rfl⟩ := List.mem_map.mp hx
            obtain ⟨l1, _, l3⟩ := hv.lsr L hL
            refine List.mem_range.mpr (l3 _ ?_)
            cases L with | nil => exact absurd rfl l1 | cons a r => simp
          simp at this ⊢; omega
        have fst : xlc (fun k_2 => xflt (xbool (xf1 allT (xmap (fun j_v => xmor (xdninD (op2 idxT (.list ((List.range m).map fun i => dD (bb i))) j_v) (some k_2)) (xdinD (op2 idxT (.list ((List.range m).map fun i => dD (bb i))) k_2) (some j_v))) (some (enI (natI lf)))))) (some k_2)) (some (enI (natI lf))) = some (.list (enI (natI F))) := by
          rw [natI_map, xlc_of (fun x : Nat => PyData.int (x : Int)) (fun k => lf.all fun j => !decide (Reach (Wb m f) j k) || decide (Reach (Wb m f) k j)) (fun k => .int (k : Int)) lf (by unfold LIM; omega) fun k hk => ?_]
          · rw [← eF, natI_map]
          · rw [xmap_of (fun x : Nat => PyData.int (x : Int)) (fun j => .bool (!decide (Reach (Wb m f) j k) || decide (Reach (Wb m f) k j))) lf (by unfold LIM; omega) fun j hj => ?_]
            · have : (lf.map fun j => PyData.bool (!decide (Reach (Wb m f) j k) || decide (Reach (Wb m f) k j))) = enBl (lf.map fun j => !decide (Reach (Wb m f) j k) || decide (Reach (Wb m f) k j)) := by unfold enBl; rw [List.map_map]; rfl
              rw [this]
              simp only [c_xf1, all_bools, c_xbool, xflt, Option.map_some, c_xif, List.all_map]
              have e2 : lf.all (id ∘ fun j => !decide (Reach (Wb m f) j k) || decide (Reach (Wb m f) k j)) = lf.all fun j => !decide (Reach (Wb m f) j k) || decide (Reach (Wb m f) k j) := rfl
              rw [e2]
              split <;> rfl
            · have hj' := hv.lt j hj
              have hk' := hv.lt k hk
              rw [ixR j hj', ixR k hk']
              simp only [xdninD, xdinD, Option.bind_some, dct_dD, xdnin_of (hbb j hj').2, xdin_of (hbb k hk').2, c_xmor, c_xbool, c_xif]
              cases decide (Reach (Wb m f) j k) <;> cases decide (Reach (Wb m f) k j) <;> rfl
        have rest : xlc (fun k_4 => xflt (xbool (op2 notInT k_4 (.list (enI (natI F))))) (some k_4)) (some (enI (natI lf))) = some (.list (enI (natI L'))) := by
          rw [natI_map lf, xlc_of (fun x : Nat => PyData.int (x : Int)) (fun k => !decide (k ∈ F)) (fun k => .int (k : Int)) lf (by unfold LIM; omega) fun k hk => ?_]
          · rw [← eL, natI_map]
          · rw [in_nat]
            simp only [c_xbool, xflt, Option.map_some, c_xif]
            split <;> rfl
        have Fm : ∀ x ∈ F, x < (plc lg).length := fun x hx => by
          rw [eF] at hx; rw [hm]; exact hv.lt x (List.mem_filter.mp hx).1
        refine ⟨by rw [hcn, ← hlf]; rfl, _, _, ?_, ⟨Ls ++ [F], L', rfl, hv', rfl⟩, by omega⟩
        unfold P.told_by_log_L3
        simp only [c_xop, c_iseq1, fst, Option.bind_some, map_things F Fm Fl, apd_of Lsl, rest]
        simp) FUEL _ (.list (enI (natI (List.range m))), []) ⟨[], List.range m, rfl, start, rfl⟩ (by simp [FUEL]; omega)
    subst e
    have h3 : P.told_by_log_C3 (.list (enI (natI lf))) (Ls.map fun L => .list (enI (L.map (pI lg)))) = some false := h3
    rw [hcn] at h3
    have hw0 : lf = [] := by
      cases lf with
      | nil => rfl
      | cons x r => simp at h3
    subst hw0
    obtain ⟨r, hr⟩ := lv_ok h hfg' (by rw [hm]; exact fun i j hi hj hg => nb i j hi hj hg) (by rw [hm]; exact hv)
    refine ⟨_, ?_, .levels _ r hr⟩
    rw [natI_range] at h1
    simp only [c_xlistR, hlr, and_self, if_true, Option.bind_some, rch, c_xseq0, h1, c_xtup, c_xseq1, Option.map_some, enLs, List.map_map]
    rfl
  · exact ⟨r, by simp only [k1, c_aft2], k2⟩
end C
namespace C
open PySem PySem.Spec PyProof.Rows L2 M N B

def SameCh (b c : Buy) : Prop := (∀ x, x ∈ b.1 ↔ x ∈ c.1) ∧ ∀ x, x ∈ b.2 ↔ x ∈ c.2
theorem RankOk.same {r : Int → Nat} {b c : Buy} (h : RankOk r b) (s : SameCh b c) : RankOk r c := fun x hx => by
  rw [← s.2 x, h x ((s.1 x).mpr hx)]
  exact ⟨fun z y hy => z y ((s.1 y).mpr hy), fun z y hy => z y ((s.1 y).mp hy)⟩
theorem HasLv.of {lg lg' : List Buy} (h : HasLv lg) (hs : ∀ c ∈ lg', ∃ b ∈ lg, SameCh b c) : HasLv lg' := by
  obtain ⟨r, hr⟩ := h
  exact ⟨r, fun c hc => by obtain ⟨b, hb, s⟩ := hs c hc; exact (hr b hb).same s⟩
theorem LogOk.sub {lg lg' : List Buy} (h : LogOk lg) (hs : ∀ c ∈ lg', GoodCh c ∧ ∀ x ∈ c.1, ∃ b ∈ lg, x ∈ b.1) : LogOk lg' := by
  obtain ⟨th, h1, h2⟩ := h.few
  exact ⟨fun c hc => (hs c hc).1, th, h1, fun c hc x hx => by obtain ⟨b, hb, hx'⟩ := (hs c hc).2 x hx; exact h2 b hb x hx'⟩
end C
namespace C
open PySem PySem.Spec PyProof.Rows L2 M N B

theorem notIn_l {x : Int} {xs : List Int} : op2 notInT (.int x) (.list (enI xs)) = some (.bool (!decide (x ∈ xs))) := by
  have h1 : (enI xs).all flatD = true := by simp [enI, flatD]
  have h2 : (enI xs).any (fun z => PyData.eqv z (.int x)) = decide (x ∈ xs) := by
    rw [Bool.eq_iff_iff]
    simp only [enI, List.any_map, List.any_eq_true, decide_eq_true_eq]
    constructor
    · rintro ⟨y, hy, e⟩
      have : y = x := by simpa [PyData.eqv] using e
      exact this ▸ hy
    · exact fun h => ⟨x, h, by simp [PyData.eqv]⟩
  have hf : flatD (.int x) = true := rfl
  simp only [op2, notInT, ev_pure, Option.bind_some, ev_anyl, hf, h1, and_self, if_true, h2]
theorem in_l {x : Int} {xs : List Int} : op2 inT (.int x) (.list (enI xs)) = some (.bool (decide (x ∈ xs))) := by
  have h1 : (enI xs).all flatD = true := by simp [enI, flatD]
  have h2 : (enI xs).any (fun z => PyData.eqv z (.int x)) = decide (x ∈ xs) := by
    rw [Bool.eq_iff_iff]
    simp only [enI, List.any_map, List.any_eq_true, decide_eq_true_eq]
    constructor
    · rintro ⟨y, hy, e⟩
      have : y = x := by simpa [PyData.eqv] using e
      exact this ▸ hy
    · exact fun h => ⟨x, h, by simp [PyData.eqv]⟩
  have hf : flatD (.int x) = true := rfl
  simp only [op2, inT, ev_pure, Option.bind_some, ev_anyl, hf, h1, and_self, if_true, h2]
/-- a filter of ints -/
theorem lc_ints {h : D → Option (Option D)} (p : Int → Bool) (xs : List Int) (hl : xs.length ≤ 1000) (hx : ∀ x ∈ xs, h (.int x) = some (if p x then some (.int x) else none)) : xlc h (some (enI xs)) = some (.list (enI (xs.filter p))) := by
  unfold enI
  rw [xlc_of PyData.int p PyData.int xs (by unfold LIM; omega) hx]
theorem flt_bool (c : Bool) (d : D) : xflt (some c) (some d) = some (if c then some d else none) := by cases c <;> rfl
theorem lenSet_l (xs : List Int) (h : xs.length ≤ 1000) : (lenSetT [.p (.list (enI xs))]).bind T.pure? = some (.int (ddup xs).length) := by
  have h2 : intsOf (enI xs) = some xs := intsOf_map xs
  have h3 : xs.length ≤ 4000 := by omega
  simp [lenSetT, T.any?, T.seq?, h2, h3, T.pure?]
theorem ins1 (t : Nat) (ht : t ≤ 1000) : (t : Int) < 2 ^ 62 := by omega
theorem ins2 (s : List D) (hl : s.length ≤ 1000) : s.length < LIM := by unfold LIM; omega
theorem ins3 (k : Int) (x : List D) (y : D) (h : 0 ≤ k ∧ k < 2 ^ 62 ∧ x.length < LIM) : (if 0 ≤ k ∧ k < 2 ^ 62 ∧ x.length < LIM then some (x.take k.toNat ++ [y] ++ x.drop k.toNat) else none) = some (x.take k.toNat ++ [y] ++ x.drop k.toNat) := if_pos h
theorem ins4 (k : Int) (x : List D) (y : D) : insL x (.int k) y = (if 0 ≤ k ∧ k < 2 ^ 62 ∧ x.length < LIM then some (x.take k.toNat ++ [y] ++ x.drop k.toNat) else none) := rfl
theorem insL_of (s : List D) (t : Nat) (y : D) (ht : t ≤ 1000) (hl : s.length ≤ 1000) : insL s (.int (t : Int)) y = some (s.take t ++ [y] ++ s.drop t) := by
  have e := ins3 (t : Int) s y ⟨Int.natCast_nonneg t, ins1 t ht, ins2 s hl⟩
  rw [Int.toNat_natCast] at e
  rw [ins4, Int.toNat_natCast]
  exact e
end C
namespace C
open PySem PySem.Spec PyProof.Rows L2 M N B

def gap (c : CF) (p : List Nat) : Int := (owns c p).sum - (steps c p).sum
section
variable {n : Nat} {c c' c1 c2 : CF}
theorem steps_clos {c : CF} {p : List Nat} {a : Nat} (h : p.head? = some a) : steps c p = clos c a p := by
  unfold steps
  cases p with
  | nil => simp at h
  | cons z r => simp at h; subst h; rfl
theorem gap_eq {p : List Nat} {a b : Nat} (h1 : p.head? = some a) (h2 : p.getLast? = some b) : gap c p = -(sumS c p + (c b a - c b b)) := by
  have := clos_sum c a h2
  unfold gap
  rw [steps_clos h1]
  omega
theorem rnd_ends {p : List Nat} (r : IsRnd n p) : ∃ a b, p.head? = some a ∧ p.getLast? = some b ∧ a < n ∧ b < n ∧ a ≠ b := by
  match p, r with
  | [], r => exact absurd r.len (by simp)
  | [x], r => exact absurd r.len (by simp)
  | x :: y :: q, r =>
    have hl : (x :: y :: q).getLast? = some ((y :: q).getLast (by simp)) := by
      rw [List.getLast?_cons_cons, List.getLast?_eq_some_getLast (by simp)]
    have hm : (y :: q).getLast (by simp) ∈ y :: q := List.getLast_mem _
    refine ⟨x, _, rfl, hl, r.lt x List.mem_cons_self, r.lt _ (List.mem_cons_of_mem _ hm), fun e => ?_⟩
    have := (List.nodup_cons.mp r.nd).1
    rw [e] at this
    exact this hm
theorem fit_sum {w : WF} {x : Rat} (hf : ∀ i j, i < n → j < n → i ≠ j → w j ≤ w i + ((c i j - c i i : Int) : Rat) + x) : ∀ {p : List Nat} {a b : Nat}, (∀ x ∈ p, x < n) → p.Nodup → p.head? = some a → p.getLast? = some b → w b ≤ w a + (sumS c p : Rat) + ((p.length - 1 : Nat) : Rat) * x
  | [], _, _, _, _, h, _ => by simp at h
  | [z], a, b, _, _, h1, h2 => by simp at h1 h2; subst h1 h2; simp [sumS]; grind
  | z :: y :: r, a, b, hp, nd, h1, h2 => by
    simp at h1; subst h1
    have ih := fit_sum hf (a := y) (b := b) (fun q hq => hp q (List.mem_cons_of_mem _ hq)) (List.nodup_cons.mp nd).2 rfl (by simpa [List.getLast?_cons_cons] using h2)
    have hne : z ≠ y := fun e => (List.nodup_cons.mp nd).1 (by rw [e]; exact List.mem_cons_self)
    have := hf z y (hp z (by simp)) (hp y (by simp)) hne
    simp only [sumS, List.length_cons, Nat.add_sub_cancel] at ih ⊢
    push_cast at ih this ⊢
    grind
/-- no round wastes more than worths show -/
theorem DearOk.most {x : Rat} {p0 : List Nat} {w : WF} (h : DearOk n c x p0 w) {p : List Nat} (r : IsRnd n p) : ((gap c p : Int) : Rat) ≤ x * (p.length : Rat) := by
  obtain ⟨a, b, h1, h2, ha, hb, hab⟩ := rnd_ends r
  have f1 := fit_sum h.fit r.lt r.nd h1 h2
  have f2 := h.fit b a hb ha (fun e => hab e.symm)
  rw [gap_eq h1 h2]
  have e3 : ((p.length - 1 : Nat) : Rat) = (p.length : Rat) - 1 := by
    have := r.len
    have : ((p.length - 1 : Nat) : Rat) + 1 = (p.length : Rat) := by exact_mod_cast (by omega : p.length - 1 + 1 = p.length)
    grind
  rw [e3] at f1
  push_cast at f2 ⊢
  grind
end
end C
namespace C
open PySem PySem.Spec PyProof.Rows L2 M N B

theorem slice_l_to {ds : List D} {k : Nat} : (sliceT (.p (.list ds)) none (some (k : Int))).bind T.pure? = some (.list (ds.take k)) := by
  simp only [sliceT, ev_seql, Option.bind_some, T.pure?]
  rw [cut_upto]
theorem slice_l_from {ds : List D} {k : Nat} (h : k ≤ ds.length) : (sliceT (.p (.list ds)) (some (k : Int)) none).bind T.pure? = some (.list (ds.drop k)) := by
  simp only [sliceT, ev_seql, Option.bind_some, T.pure?]
  rw [cut_from _ _ h]
theorem list_of (d : D) (h : ∃ ds, d = .list ds) : (listT [.p d]).bind T.pure? = some d := by
  obtain ⟨ds, rfl⟩ := h
  simp [listT, T.any?, T.seq?, T.pure?]
section
variable {m n : Nat} {p : AmF} {as : List AmF}
end
end C
namespace C
open PySem PySem.Spec PyProof.Rows L2 M N B

end C
namespace C
open PySem PySem.Spec PyProof.Rows L2 M N B
end C
namespace C
open PySem PySem.Spec PyProof.Rows L2 M N B
section
variable (bk : List Buy) (i j : Int)
def InR (n : Nat) (i : Int) : Prop := 0 ≤ i ∧ i < n
instance (n : Nat) (i : Int) : Decidable (InR n i) := by unfold InR; infer_instance
end
section
variable {m : Nat} {bk : List Buy} (v : ValidBook m bk) (h13 : bk.length ≤ 13)
include v h13
end
end C
namespace C
open PySem PySem.Spec PyProof.Rows L2 M N B
section
variable {m : Nat} {bk : List Buy} (v : ValidBook m bk) (h13 : bk.length ≤ 13)
include v h13
end
end C
namespace C
open PySem PySem.Spec PyProof.Rows L2 M N B
section
variable {lg : List Buy} (h : LogOk lg) (h1 : 1 ≤ lg.length) (h8 : lg.length ≤ 8)
include h h1 h8
end
end C
namespace C
open PySem PySem.Spec PyProof.Rows L2 M N B
abbrev enL (l : List Int) : D := .list (enI l)
theorem pln_L (l : List Int) : Pln 1 (enL l) := pln_ints l
theorem enL_inj {a b : List Int} : enL a = enL b ↔ a = b := ⟨fun h => enI_inj (by injection h), fun h => by rw [h]⟩
theorem eq_L (a b : List Int) : op2 M.eqT (enL a) (enL b) = some (.bool (decide (a = b))) := c_eq (pln_L a) (pln_L b) enL_inj
theorem ne_L (a b : List Int) : op2 M.neT (enL a) (enL b) = some (.bool (!decide (a = b))) := c_ne (pln_L a) (pln_L b) enL_inj
theorem eq_L0 (a : List Int) : op2 M.eqT (enL a) (.list []) = some (.bool (decide (a = []))) := eq_L a []
theorem ne_L0 (a : List Int) : op2 M.neT (enL a) (.list []) = some (.bool (!decide (a = []))) := ne_L a []
theorem sort_self {l : List Int} (h : l.Pairwise (· < ·)) : sortI l = l := sort_eq (h.imp fun h => by omega) h fun _ => Iff.rfl
theorem sort_lt {l : List Int} (h : l.Nodup) : (sortI l).Pairwise (· < ·) := by
  have h1 := sortI_pair l
  have h2 : (sortI l).Nodup := (sortI_perm l).nodup_iff.mpr h
  have := List.pairwise_and_iff.mpr ⟨h1, h2⟩
  exact this.imp fun h => by omega
theorem mem_sort {l : List Int} {x : Int} : x ∈ sortI l ↔ x ∈ l := (sortI_perm l).mem_iff
theorem sortAny_l {l : List Int} : (sortAnyT [.p (enL l)]).bind T.pure? = some (enL (sortI l)) := by
  have h2 : intsOf (enI l) = some l := intsOf_map l
  simp only [sortAnyT, ev_anyl, Option.bind_some, h2, Option.map_some, T.pure?]
  rfl
theorem sortAny_t {l : List Int} : (sortAnyT [.p (.tuple (enI l))]).bind T.pure? = some (enL (sortI l)) := by
  have h2 : intsOf (enI l) = some l := intsOf_map l
  have h3 : (T.p (.tuple (enI l))).any? = some (enI l) := rfl
  simp only [sortAnyT, h3, Option.bind_some, h2, Option.map_some, T.pure?]
  rfl
theorem len_L (l : List Int) : (lenT [.p (enL l)]).bind T.pure? = some (.int l.length) := by simp [lenT, T.kids, T.pure?, enI]
theorem add_L (a b : List Int) (h : a.length + b.length ≤ 1000) : op2 addT (enL a) (enL b) = some (enL (a ++ b)) := by
  rw [c_addl, if_pos (by simp [enI, LIM]; omega)]; simp [enI]
theorem in_t {x : Int} {xs : List Int} : op2 inT (.int x) (.tuple (enI xs)) = some (.bool (decide (x ∈ xs))) := by
  have := in_l (x := x) (xs := xs)
  simp only [op2] at this ⊢
  exact this
theorem p_offered {lg : List Buy} (h : LogOk lg) : P.law_offered (enBk lg) = some (enL (natI (plc lg))) := by
  obtain ⟨th0, h1, h2⟩ := h.few
  have key := fold_map (step := fun s d => un2 d fun x y => P.law_offered_L1 s x y) enB (fun i s => ∃ th : List Int, s = .list (enI th) ∧ th.Nodup ∧ (∀ x ∈ th, x ∈ th0) ∧ (∀ x ∈ th, ∃ b ∈ lg, x ∈ b.1) ∧ ∀ b ∈ lg.take i, ∀ x ∈ b.1, x ∈ th) lg (.list []) ⟨[], rfl, by simp, by simp, by simp, by simp⟩ (fun i hi s hs => by
    obtain ⟨th, rfl, nd, sub, src, cov⟩ := hs
    obtain ⟨b, hb'⟩ : ∃ b, lg[i] = b := ⟨_, rfl⟩
    have hbm : b ∈ lg := hb' ▸ List.getElem_mem hi
    have g := h.ch b hbm
    have tl := nodup_le nd sub
    rw [hb']
    have lc := lc_ints (h := fun one => xflt (xbool (op2 notInT one (.list (enI th)))) (some one)) (fun x => !decide (x ∈ th)) b.1 (by have := g.o12; omega) fun x _ => by
      rw [notIn_l, c_xbool, flt_bool]
    refine ⟨.list (enI (th ++ b.1.filter fun x => !decide (x ∈ th))), ?_, _, rfl, ?_, fun x hx => ?_, fun x hx => ?_, fun c hc x hx => ?_⟩
    · unfold enB P.law_offered_L1
      rw [c_un2]
      simp only [c_xop, c_iseq2, lc]
      rw [add_L _ _ (by have := List.length_filter_le (fun x => !decide (x ∈ th)) b.1; have := g.o12; omega)]
      rfl
    · rw [List.nodup_append]
      exact ⟨nd, List.Pairwise.filter _ g.on, fun a ha c hc e => by
        have := (List.mem_filter.mp hc).2
        subst e; simp [ha] at this⟩
    · rcases List.mem_append.mp hx with z | z
      · exact sub x z
      · exact h2 b hbm x (List.mem_filter.mp z).1
    · rcases List.mem_append.mp hx with z | z
      · exact src x z
      · exact ⟨b, hbm, (List.mem_filter.mp z).1⟩
    · rw [List.take_succ, List.getElem?_eq_getElem hi, hb', List.mem_append, Option.toList_some, List.mem_singleton] at hc
      rcases hc with hc | rfl
      · exact List.mem_append_left _ (cov c hc x hx)
      · by_cases e : x ∈ th
        · exact List.mem_append_left _ e
        · exact List.mem_append_right _ (List.mem_filter.mpr ⟨hx, by simp [e]⟩))
  obtain ⟨s, k1, th, rfl, nd, sub, src, cov⟩ := key
  rw [List.take_length] at cov
  have hs : sortI th = natI (plc lg) := sort_eq nd (natI_sorted (plc_sorted lg)) fun a => by
    unfold natI
    rw [List.mem_map]
    constructor
    · intro ha
      obtain ⟨b, hb, hx⟩ := src a ha
      have hr := (h.ch b hb).rng a hx
      exact ⟨a.toNat, mem_plc.mpr ⟨by omega, b, hb, by rw [Int.toNat_of_nonneg hr.1]; exact hx⟩, Int.toNat_of_nonneg hr.1⟩
    · rintro ⟨k, hk, rfl⟩
      obtain ⟨_, b, hb, hx⟩ := mem_plc.mp hk
      exact cov b hb _ hx
  unfold P.law_offered
  rw [show iseq (some (enBk lg)) = some (lg.map enB) from rfl]
  simp only [c_xlst, c_xseq0, Option.map_some, Option.bind_some, k1, c_xf1, sortedT_eq, hs]
theorem mem_plcI {lg : List Buy} (h : LogOk lg) {x : Int} : x ∈ natI (plc lg) ↔ ∃ b ∈ lg, x ∈ b.1 := by
  unfold natI
  rw [List.mem_map]
  constructor
  · rintro ⟨k, hk, rfl⟩
    exact (mem_plc.mp hk).2
  · rintro ⟨b, hb, hx⟩
    have hr := (h.ch b hb).rng x hx
    exact ⟨x.toNat, mem_plc.mpr ⟨by omega, b, hb, by rw [Int.toNat_of_nonneg hr.1]; exact hx⟩, Int.toNat_of_nonneg hr.1⟩
theorem flt_one {a : Nat} : ∀ {n : Nat}, a < n → (List.range n).filter (fun k => decide (k = a)) = [a]
  | 0, h => by omega
  | n + 1, h => by
    rw [List.range_succ, List.filter_append]
    by_cases e : a = n
    · subst e
      have : (List.range a).filter (fun k => decide (k = a)) = [] := by
        rw [List.filter_eq_nil_iff]; intro x hx; have := List.mem_range.mp hx; simp; omega
      rw [this]; simp
    · rw [flt_one (by omega)]
      have : ¬ n = a := fun z => e z.symm
      simp [this]
theorem zip_map {α : Type} (f g : α → D) : ∀ xs : List α, zipD (xs.map f) (xs.map g) = xs.map fun x => .tuple [f x, g x]
  | [] => rfl
  | x :: r => by simp [zipD, zip_map f g r]
theorem lv_nodup {lg : List Buy} {ls : List (List Int)} {r : Int → Nat} (lv : LvOk lg ls r) : ls.flatten.Nodup := by
  rw [List.Nodup, List.pairwise_flatten]
  constructor
  · intro l hl
    obtain ⟨i, hi, rfl⟩ := List.mem_iff_getElem.mp hl
    exact (lv.at' i _ (List.getElem?_eq_getElem hi)).2.1.imp fun h => by omega
  · rw [List.pairwise_iff_getElem]
    intro i j hi hj hij x hx y hy e
    have h1 := ((lv.at' i _ (List.getElem?_eq_getElem hi)).2.2 x).mp hx
    have h2 := ((lv.at' j _ (List.getElem?_eq_getElem hj)).2.2 y).mp hy
    subst e
    omega
theorem lv_mem {lg : List Buy} {ls : List (List Int)} {r : Int → Nat} (lv : LvOk lg ls r) {x : Int} : x ∈ ls.flatten ↔ ∃ b ∈ lg, x ∈ b.1 := by
  rw [List.mem_flatten]
  constructor
  · rintro ⟨l, hl, hx⟩
    obtain ⟨i, hi, rfl⟩ := List.mem_iff_getElem.mp hl
    exact (((lv.at' i _ (List.getElem?_eq_getElem hi)).2.2 x).mp hx).1
  · rintro ⟨b, hb, hx⟩
    have hr := lv.all b hb x hx
    exact ⟨ls[r x], List.getElem_mem hr, ((lv.at' _ _ (List.getElem?_eq_getElem hr)).2.2 x).mpr ⟨⟨b, hb, hx⟩, rfl⟩⟩
theorem lv_few {lg : List Buy} {ls : List (List Int)} {r : Int → Nat} (h : LogOk lg) (lv : LvOk lg ls r) : ls.flatten.length < 64 ∧ ls.length < 64 := by
  obtain ⟨th, t1, t2⟩ := h.few
  have h1 := nodup_le (lv_nodup lv) (m := th) fun x hx => by
    obtain ⟨b, hb, hx⟩ := (lv_mem lv).mp hx
    exact t2 b hb x hx
  refine ⟨by omega, ?_⟩
  have h2 : ls.length ≤ ls.flatten.length := by
    have ne : ∀ l ∈ ls, 1 ≤ l.length := fun l hl => by
      obtain ⟨i, hi, rfl⟩ := List.mem_iff_getElem.mp hl
      exact List.length_pos_iff.mpr (lv.at' i _ (List.getElem?_eq_getElem hi)).1
    clear lv h1 t2
    induction ls with
    | nil => simp
    | cons a t ih =>
      have := ne a List.mem_cons_self
      have := ih fun l hl => ne l (List.mem_cons_of_mem _ hl)
      simp only [List.flatten_cons, List.length_append, List.length_cons]; omega
  omega
end C
namespace C
open PySem PySem.Spec PyProof.Rows L2 M N B
section
variable {N : Nat} {W : WF} (hN : N ≤ 100) (hs : ∀ i, i < N → SzQ 100000 (W i))
/-- levels so far and what is left -/
structure LW (W : WF) (os : List Nat) (ls : List (List Nat)) (lf : List Nat) : Prop where
  srt : lf.Pairwise (· < ·)
  lv : ∀ l ∈ ls, l ≠ [] ∧ l.Pairwise (· < ·)
  mem : ∀ x, x ∈ os ↔ x ∈ lf ∨ ∃ l ∈ ls, x ∈ l
  same : ∀ l ∈ ls, ∀ x ∈ l, ∀ y ∈ l, W x = W y
  down : ls.Pairwise fun a b => ∀ x ∈ a, ∀ y ∈ b, W y < W x
  low : ∀ l ∈ ls, ∀ x ∈ l, ∀ y ∈ lf, W y < W x
theorem LW.turn {W : WF} {os : List Nat} {ls : List (List Nat)} {lf : List Nat} (h : LW W os ls lf) {b : Nat} (hb : b ∈ lf) (hm : ∀ y ∈ lf, W y ≤ W b) :
    LW W os (ls ++ [lf.filter fun x => decide (W x = W b)]) (lf.filter fun x => !decide (W x = W b)) := by
  refine ⟨List.Pairwise.filter _ h.srt, fun l hl => ?_, fun x => ?_, fun l hl => ?_, ?_, fun l hl => ?_⟩
  · rcases List.mem_append.mp hl with z | z
    · exact h.lv l z
    · simp at z; subst z
      refine ⟨fun e => ?_, List.Pairwise.filter _ h.srt⟩
      have : b ∈ lf.filter fun x => decide (W x = W b) := List.mem_filter.mpr ⟨hb, by simp⟩
      rw [e] at this; simp at this
  · rw [h.mem x]
    constructor
    · rintro (z | ⟨l, hl, hx⟩)
      · by_cases e : W x = W b
        · exact .inr ⟨_, List.mem_append_right _ (List.mem_singleton.mpr rfl), List.mem_filter.mpr ⟨z, by simp [e]⟩⟩
        · exact .inl (List.mem_filter.mpr ⟨z, by simp [e]⟩)
      · exact .inr ⟨l, List.mem_append_left _ hl, hx⟩
    · rintro (z | ⟨l, hl, hx⟩)
      · exact .inl (List.mem_filter.mp z).1
      · rcases List.mem_append.mp hl with z | z
        · exact .inr ⟨l, z, hx⟩
        · simp at z; subst z; exact .inl (List.mem_filter.mp hx).1
  · rcases List.mem_append.mp hl with z | z
    · exact h.same l z
    · simp at z; subst z
      intro x hx y hy
      have h1 := (List.mem_filter.mp hx).2
      have h2 := (List.mem_filter.mp hy).2
      simp at h1 h2
      rw [h1, h2]
  · rw [List.pairwise_append]
    refine ⟨h.down, by simp, fun a ha c hc x hx y hy => ?_⟩
    simp at hc; subst hc
    exact h.low a ha x hx y (List.mem_filter.mp hy).1
  · rcases List.mem_append.mp hl with z | z
    · exact fun x hx y hy => h.low l z x hx y (List.mem_filter.mp hy).1
    · simp at z; subst z
      intro x hx y hy
      have h1 := (List.mem_filter.mp hx).2
      have h2 := (List.mem_filter.mp hy).2
      have h3 := hm y (List.mem_filter.mp hy).1
      simp at h1 h2
      grind
include hN hs
end
end C
namespace C
open PySem PySem.Spec PyProof.Rows L2 M N B
theorem sortSet_l {l : List Int} (h : l.length < 64) : (sortSetT [.p (enL l)]).bind T.pure? = some (enL (sortI (ddup l))) := by
  have h2 : intsOf (enI l) = some l := intsOf_map l
  simp only [sortSetT, ev_seql, Option.bind_some, h2, h, if_true, T.pure?]
  rfl
theorem int_in {l : List Int} {b : Buy} (hl : l.length ≤ 1000) : xlc (fun one => xflt (xbool (xop inT (some one) (some (.tuple (enI b.1))))) (some one)) (iseq (some (enL l))) = some (enL (l.filter fun x => decide (x ∈ b.1))) := by
  rw [c_iseq1, lc_ints (fun x => decide (x ∈ b.1)) l hl fun x _ => by rw [c_xop, in_t, c_xbool, flt_bool]]
end C
namespace C
open PySem PySem.Spec PyProof.Rows L2 M N B
def gd (l : List Int) : Bool := !decide (l = []) && decide (l = sortI (ddup l))
theorem gd_lt {l : List Int} (h : gd l = true) : l ≠ [] ∧ l.Pairwise (· < ·) := by
  unfold gd at h
  simp only [Bool.and_eq_true, Bool.not_eq_true', decide_eq_false_iff_not, decide_eq_true_eq] at h
  refine ⟨h.1, ?_⟩
  rw [h.2]
  exact sort_lt (nodup_ddup l)
theorem gd_iff (l : List Int) : l = sortI (ddup l) ↔ (l = sortI l ∧ ((ddup l).length : Int) = (l.length : Int)) := by
  constructor
  · intro h
    have hp : l.Pairwise (· < ·) := by rw [h]; exact sort_lt (nodup_ddup l)
    have nd : l.Nodup := hp.imp fun h => by omega
    exact ⟨(sort_self hp).symm, by rw [ddup_eq.mpr nd]⟩
  · rintro ⟨h1, h2⟩
    have nd : l.Nodup := ddup_eq.mp (by omega)
    have hp : l.Pairwise (· < ·) := by rw [h1]; exact sort_lt nd
    exact (sort_eq (nodup_ddup l) hp fun a => mem_ddup).symm
theorem xl_L1b {l acc : List Int} (h64 : l.length < 64) (hn : acc.length + l.length ≤ 1000) : P.explains_log_L1 (enL acc) (enL l) = some (if gd l then .nx (enL (acc ++ l)) else .rt (.bool false)) := by
  unfold P.explains_log_L1
  simp only [c_xlst, c_xseq0, Option.map_some, c_xop, eq_L0, c_xbool, c_xor, c_xf1, sortSet_l h64, ne_L, add_L acc l hn, Option.bind_some]
  unfold gd
  cases decide (l = []) <;> cases decide (l = sortI (ddup l)) <;> rfl
theorem ex_L1b {l acc : List Int} (hn : acc.length + l.length ≤ 1000) : P.law_explains_2_L1 (enL acc) (enL l) = some (if gd l then .nx (enL (acc ++ l)) else .rt (.bool false)) := by
  have lb := list_of (enL l) ⟨_, rfl⟩
  unfold P.law_explains_2_L1
  simp only [c_xlst, c_xseq0, Option.map_some, c_xop, eq_L0, c_xbool, c_xor, c_xf1, sortAny_l, ne_L, lenSet_l l (by omega), len_L, c_nei, lb, add_L acc l hn, Option.bind_some]
  unfold gd
  rw [decide_eq_decide.mpr (gd_iff l), Bool.decide_and]
  cases decide (l = []) <;> cases decide (l = sortI l) <;> cases decide (((ddup l).length : Int) = (l.length : Int)) <;> rfl
theorem lv_loop {step : D → D → Option (Ct D D)} : ∀ (ls : List (List Int)) (acc : List Int), acc.length + ls.flatten.length ≤ 1000 → (∀ l ∈ ls, ∀ acc : List Int, acc.length + l.length ≤ 1000 → step (enL acc) (enL l) = some (if gd l then .nx (enL (acc ++ l)) else .rt (.bool false))) → foldC step (ls.map enL) (enL acc) = some (if ls.all gd then .nx (enL (acc ++ ls.flatten)) else .rt (.bool false))
  | [], acc, _, _ => by simp [foldC]
  | l :: r, acc, hn, h => by
    rw [List.flatten_cons, List.length_append] at hn
    have h1 := h l List.mem_cons_self acc (by omega)
    rw [List.map_cons, foldC, h1, Option.bind_some, List.all_cons]
    cases hg : gd l with
    | false => rfl
    | true =>
      have := lv_loop r (acc ++ l) (by rw [List.length_append]; omega) fun l' hl' => h l' (List.mem_cons_of_mem _ hl')
      simp only [if_true, Bool.true_and]
      rw [this, List.flatten_cons, List.append_assoc]
/-- levels that part the things -/
structure LvP (lg : List Buy) (ls : List (List Int)) (r : Int → Nat) : Prop where
  at' : ∀ (i : Nat) (l : List Int), ls[i]? = some l → l ≠ [] ∧ l.Pairwise (· < ·) ∧ ∀ x, x ∈ l ↔ ((∃ b ∈ lg, x ∈ b.1) ∧ r x = i)
  all : ∀ b ∈ lg, ∀ x ∈ b.1, r x < ls.length
theorem lvp_of {lg : List Buy} {ls : List (List Int)} (h : LogOk lg) (hg : ls.all gd = true) (hs : sortI ls.flatten = natI (plc lg)) : LvP lg ls fun x => ls.findIdx fun l => decide (x ∈ l) := by
  have nd : ls.flatten.Nodup := (sortI_perm ls.flatten).nodup_iff.mp (by rw [hs]; exact (natI_sorted (plc_sorted lg)).imp fun h => by omega)
  have mem : ∀ x, x ∈ ls.flatten ↔ ∃ b ∈ lg, x ∈ b.1 := fun x => by rw [← mem_plcI h, ← hs, mem_sort]
  rw [List.Nodup, List.pairwise_flatten] at nd
  have dis := List.pairwise_iff_getElem.mp nd.2
  have idx : ∀ (i : Nat) (hi : i < ls.length) (x : Int), x ∈ ls[i] → ls.findIdx (fun l => decide (x ∈ l)) = i := fun i hi x hx => by
    rw [List.findIdx_eq hi]
    refine ⟨by simp [hx], fun j hj => ?_⟩
    simp only [decide_eq_false_iff_not]
    intro hx2
    exact dis j i (Nat.lt_trans hj hi) hi hj x hx2 x hx rfl
  have plc' : ∀ x, (∃ b ∈ lg, x ∈ b.1) → ∃ i, ∃ hi : i < ls.length, x ∈ ls[i] := fun x hx => by
    obtain ⟨l, hl, hx⟩ := List.mem_flatten.mp ((mem x).mpr hx)
    obtain ⟨i, hi, rfl⟩ := List.mem_iff_getElem.mp hl
    exact ⟨i, hi, hx⟩
  refine ⟨fun i l hl => ?_, fun b hb x hx => ?_⟩
  · obtain ⟨hi, rfl⟩ := List.getElem?_eq_some_iff.mp hl
    have g := gd_lt (List.all_eq_true.mp hg _ (List.getElem_mem hi))
    refine ⟨g.1, g.2, fun x => ⟨fun hx => ⟨(mem x).mp (List.mem_flatten.mpr ⟨_, List.getElem_mem hi, hx⟩), idx i hi x hx⟩, fun ⟨hb, e⟩ => ?_⟩⟩
    obtain ⟨j, hj, hx⟩ := plc' x hb
    have e2 := idx j hj x hx
    have : j = i := by rw [← e2]; exact e
    subst this
    exact hx
  · obtain ⟨j, hj, hx'⟩ := plc' x ⟨b, hb, hx⟩
    show ls.findIdx _ < _
    rw [idx j hj x hx']; exact hj
def mOf (r : Int → Nat) (b : Buy) : Int := (minI (b.1.map fun x => (r x : Int))).getD 0
def pOk (r : Int → Nat) (b : Buy) : Bool := decide (sortI (b.1.filter fun x => decide ((r x : Int) = mOf r b)) = sortI b.2)
theorem mOf_spec {r : Int → Nat} {b : Buy} (h : 1 ≤ b.1.length) : minI (b.1.map fun x => (r x : Int)) = some (mOf r b) ∧ (∃ x ∈ b.1, (r x : Int) = mOf r b) ∧ ∀ x ∈ b.1, mOf r b ≤ (r x : Int) := by
  have g1 : 0 < b.1.length := h
  obtain ⟨mn, hmn, _⟩ := minI_some (ns := b.1.map fun x => (r x : Int)) (x := (r b.1[0] : Int)) (List.mem_map.mpr ⟨_, List.getElem_mem g1, rfl⟩)
  have e : mOf r b = mn := by unfold mOf; rw [hmn]; rfl
  obtain ⟨m1, m2⟩ := minI_spec hmn
  rw [e]
  refine ⟨hmn, ?_, fun x hx => m2 _ (List.mem_map.mpr ⟨x, hx, rfl⟩)⟩
  obtain ⟨y, hy, e⟩ := List.mem_map.mp m1
  exact ⟨y, hy, e⟩
theorem ex_L3b {lg : List Buy} {ls : List (List Int)} {r : Int → Nat} (h : LogOk lg) (lv : LvP lg ls r) (hls : ls.length ≤ 1000) {b : Buy} (hb : b ∈ lg) : P.law_explains_2_L3 (enLs ls) (.tuple (enI b.1)) (.tuple (enI b.2)) = some (if pOk r b then .nx () else .rt (.bool false)) := by
  have g := h.ch b hb
  have g1 : 0 < b.1.length := g.o1
  have sm : smallI (ls.length : Int) := small_of (by omega) (by omega)
  have lnL : (lenT [.p (enLs ls)]).bind T.pure? = some (.int ls.length) := by simp [lenT, T.kids, T.pure?, enLs]
  have ixL : ∀ k (hk : k < ls.length), op2 idxT (enLs ls) (.int (k : Int)) = some (enL ls[k]) := fun k hk => by
    unfold enLs
    rw [c_ixl, atI_nat (v := enL ls[k]) (by simp [hk])]
  have place : ∀ x ∈ b.1, ∀ acc : List D, acc.length ≤ 1000 → P.law_explains_2_L2 (enLs ls) acc (.int x) = some (acc ++ [.int (r x : Int)]) := fun x hx acc ha => by
    have hr := lv.all b hb x hx
    have key : xlc (fun k => xflt (xbool (xop inT (some (.int x)) (xop idxT (some (enLs ls)) (some k)))) (some k)) (irng1 (xf1 lenT (some (enLs ls)))) = some (.list [.int (r x : Int)]) := by
      rw [c_xf1, lnL, c_irng1, if_pos sm, xlc_range ls.length (fun k => decide (k = r x)) (fun k => .int (k : Int)) (by unfold LIM; omega) fun k hk => ?_]
      · rw [flt_one hr]; rfl
      · have hm := (lv.at' k ls[k] (List.getElem?_eq_getElem hk)).2.2 x
        have e : decide (x ∈ ls[k]) = decide (k = r x) := decide_eq_decide.mpr ⟨fun z => ((hm.mp z).2).symm, fun z => hm.mpr ⟨⟨b, hb, hx⟩, z.symm⟩⟩
        rw [c_xop, ixL k hk, c_xop, in_l, c_xbool, e, flt_bool]
    have i0 : op2 idxT (.list [PyData.int (r x : Int)]) (.int 0) = some (.int (r x : Int)) := rfl
    unfold P.law_explains_2_L2
    rw [key]
    simp only [c_xop, i0, Option.bind_some, apd_of ha]
  have fa := fold_app (step := fun s d => P.law_explains_2_L2 (enLs ls) s d) PyData.int (fun x => .int (r x : Int)) b.1 [] (fun x hx acc _ ha => place x hx acc ha) (by have := g.o12; simp; omega)
  obtain ⟨hmn, _, _⟩ := mOf_spec (r := r) g.o1
  obtain ⟨mn, hm0⟩ : ∃ mn, mOf r b = mn := ⟨_, rfl⟩
  rw [hm0] at hmn
  have mt : (minT [.p (.list (b.1.map fun x => PyData.int (r x : Int)))]).bind T.pure? = some (.int mn) := by
    have e : (b.1.map fun x => PyData.int (r x : Int)) = (b.1.map fun x => (r x : Int)).map PyData.int := by simp
    rw [e]
    simp only [minT, ev_anyl, Option.bind_some, intsOf_map, hmn, Option.map_some, T.pure?]
  have best : xlc (fun d => un2 d fun one_2 place => xflt (xbool (xop M.eqT (some place) (some (.int mn)))) (some one_2)) (some (zipD (enI b.1) (b.1.map fun x => PyData.int (r x : Int)))) = some (enL (b.1.filter fun x => decide ((r x : Int) = mn))) := by
    unfold enI
    rw [zip_map, xlc_of (fun x : Int => PyData.tuple [.int x, .int (r x : Int)]) (fun x => decide ((r x : Int) = mn)) PyData.int b.1 (by have := g.o12; unfold LIM; omega) fun x hx => ?_]
    · rfl
    · simp only [c_un2, c_xop, c_eqi, c_xbool, flt_bool]
  unfold P.law_explains_2_L3
  simp only [c_xseq0, Option.bind_some, c_iseq2]
  rw [show enI b.1 = b.1.map PyData.int from rfl, fa]
  simp only [Option.bind_some, List.nil_append, c_xf1, mt, izipM]
  rw [show b.1.map PyData.int = enI b.1 from rfl, best]
  unfold pOk
  rw [hm0]
  simp only [Option.bind_some, c_xf1, sortAny_l, sortAny_t, c_xop, ne_L, c_xbool]
  cases decide (sortI (b.1.filter fun x => decide ((r x : Int) = mn)) = sortI b.2) <;> rfl
theorem xl_L2b {lg : List Buy} {ls : List (List Int)} {r : Int → Nat} (h : LogOk lg) (lv : LvP lg ls r) (hls : ls.length ≤ 1000) (hfl : ls.flatten.length ≤ 1000) {b : Buy} (hb : b ∈ lg) : P.explains_log_L2 (enLs ls) (.tuple (enI b.1)) (.tuple (enI b.2)) = some (if pOk r b then .nx () else .rt (.bool false)) := by
  have g := h.ch b hb
  have ll : ∀ l ∈ ls, l.length ≤ 1000 := fun l hl => by
    obtain ⟨a, c, e⟩ := List.append_of_mem hl
    rw [e] at hfl; simp at hfl; omega
  obtain ⟨_, ⟨x0, hx1, hx0⟩, hmin⟩ := mOf_spec (r := r) g.o1
  have hr := lv.all b hb x0 hx1
  have at0 := lv.at' (r x0) ls[r x0] (List.getElem?_eq_getElem hr)
  have flt : xlc (fun level_2 => xflt (xbool (xop M.neT (xlc (fun one => xflt (xbool (xop inT (some one) (some (.tuple (enI b.1))))) (some one)) (iseq (some level_2))) (xlst []))) (some level_2)) (iseq (some (enLs ls))) = some (.list ((ls.filter fun l => !decide (l.filter (fun x => decide (x ∈ b.1)) = [])).map enL)) := by
    rw [show iseq (some (enLs ls)) = some (ls.map enL) from rfl, xlc_of enL (fun l => !decide (l.filter (fun x => decide (x ∈ b.1)) = [])) enL ls (by unfold LIM; omega) fun l hl => ?_]
    rw [int_in (ll l hl)]
    simp only [c_xlst, c_xseq0, Option.map_some, c_xop, ne_L0, c_xbool, flt_bool]
  have hd : ((ls.filter fun l => !decide (l.filter (fun x => decide (x ∈ b.1)) = [])).map enL)[0]? = some (enL ls[r x0]) := by
    rw [List.getElem?_map, ← List.head?_eq_getElem?, List.head?_filter]
    have : ls.find? (fun l => !decide (l.filter (fun x => decide (x ∈ b.1)) = [])) = some ls[r x0] := by
      rw [List.find?_eq_some_iff_getElem]
      refine ⟨?_, r x0, hr, rfl, fun i hi => ?_⟩
      · have hm : x0 ∈ ls[r x0] := (at0.2.2 x0).mpr ⟨⟨b, hb, hx1⟩, rfl⟩
        have : x0 ∈ ls[r x0].filter fun x => decide (x ∈ b.1) := List.mem_filter.mpr ⟨hm, by simp [hx1]⟩
        simp only [Bool.not_eq_true', decide_eq_false_iff_not]
        intro e; rw [e] at this; simp at this
      · have hi' := Nat.lt_trans hi hr
        have : ls[i].filter (fun x => decide (x ∈ b.1)) = [] := by
          rw [List.filter_eq_nil_iff]
          intro x hx hx2
          simp at hx2
          have h1 := ((lv.at' i _ (List.getElem?_eq_getElem hi')).2.2 x).mp hx
          have h2 := hmin x hx2
          omega
        simp [this]
    rw [this]; rfl
  have i0 : op2 idxT (.list ((ls.filter fun l => !decide (l.filter (fun x => decide (x ∈ b.1)) = [])).map enL)) (.int 0) = some (enL ls[r x0]) := by
    rw [c_ixl]
    exact atI_nat (j := 0) hd
  have eq : sortI (b.1.filter fun x => decide ((r x : Int) = mOf r b)) = ls[r x0].filter fun x => decide (x ∈ b.1) := sort_eq (List.Pairwise.filter _ g.on) (List.Pairwise.filter _ at0.2.1) fun x => by
    rw [List.mem_filter, List.mem_filter, at0.2.2, decide_eq_true_eq, decide_eq_true_eq]
    constructor
    · rintro ⟨hx, e⟩
      exact ⟨⟨⟨b, hb, hx⟩, by omega⟩, hx⟩
    · rintro ⟨⟨_, e⟩, hx⟩
      exact ⟨hx, by omega⟩
  unfold P.explains_log_L2
  rw [flt]
  simp only [c_xop, i0, Option.bind_some, c_xf1, sortAny_t]
  have ii := int_in (l := ls[r x0]) (b := b) (ll _ (List.getElem_mem hr))
  simp only [c_xop] at ii
  rw [ii, c_xop, ← eq, ne_L, c_xbool]
  unfold pOk
  rw [decide_eq_decide.mpr (eq_comm (a := sortI b.2) (b := sortI (b.1.filter fun x => decide ((r x : Int) = mOf r b))))]
  cases decide (sortI (b.1.filter fun x => decide ((r x : Int) = mOf r b)) = sortI b.2) <;> rfl
theorem explains_both {lg : List Buy} {ls : List (List Int)} (h : LogOk lg) (hf : ls.flatten.length < 64) (hls : ls.length ≤ 1000) : ∃ b, P.explains_log (enBk lg) (enLs ls) = some (.bool b) ∧ P.law_explains_2 (enBk lg) (enLs ls) = some (.bool b) := by
  have ll : ∀ l ∈ ls, l.length < 64 := fun l hl => by
    obtain ⟨a, c, e⟩ := List.append_of_mem hl
    rw [e] at hf; simp at hf; omega
  have k1 := lv_loop (step := fun s d => P.explains_log_L1 s d) ls [] (by rw [List.length_nil]; omega) fun l hl acc ha => xl_L1b (ll l hl) ha
  have k2 := lv_loop (step := fun s d => P.law_explains_2_L1 s d) ls [] (by rw [List.length_nil]; omega) fun l hl acc ha => ex_L1b ha
  rw [show enL ([] : List Int) = .list [] from rfl] at k1 k2
  unfold P.explains_log P.law_explains_2
  rw [show iseq (some (enLs ls)) = some (ls.map enL) from rfl, show iseq (some (enBk lg)) = some (lg.map enB) from rfl]
  simp only [c_xlst, c_xseq0, Option.map_some, Option.bind_some, k1, k2]
  cases hg : ls.all gd with
  | false => exact ⟨false, rfl, rfl⟩
  | true =>
    simp only [if_true, c_aft1, List.nil_append, c_xf1, sortAny_l, c_ap1, things_in h, p_offered h, c_xop]
    rw [show (PyData.list (enI (natI (plc lg)))) = enL (natI (plc lg)) from rfl, ne_L, c_xbool]
    by_cases hs : sortI ls.flatten = natI (plc lg)
    · have lv := lvp_of h hg hs
      rw [decide_eq_true hs, Bool.not_true, c_xif_f, c_xif_f]
      have f1 := foldC_all (ρ := D) (step := fun s d => un2 d fun x y => P.explains_log_L2 (enLs ls) x y) enB (pOk fun x => ls.findIdx fun l => decide (x ∈ l)) (.bool false) lg fun b hb => by
        unfold enB
        rw [c_un2]
        exact xl_L2b h lv hls (by omega) hb
      have f2 := foldC_all (ρ := D) (step := fun s d => un2 d fun x y => P.law_explains_2_L3 (enLs ls) x y) enB (pOk fun x => ls.findIdx fun l => decide (x ∈ l)) (.bool false) lg fun b hb => by
        unfold enB
        rw [c_un2]
        exact ex_L3b h lv hls hb
      refine ⟨lg.all (pOk fun x => ls.findIdx fun l => decide (x ∈ l)), ?_, ?_⟩
      · rw [f1]
        cases lg.all (pOk fun x => ls.findIdx fun l => decide (x ∈ l)) <;> rfl
      · rw [f2]
        cases lg.all (pOk fun x => ls.findIdx fun l => decide (x ∈ l)) <;> rfl
    · rw [decide_eq_false hs, Bool.not_false, c_xif_t, c_xif_t]
      exact ⟨false, rfl, rfl⟩
end C
namespace C
open PySem PySem.Spec PyProof.Rows L2 M N B
section
variable {lg : List Buy} {xs : List Int} (h : LogOk lg) (rd : RndL lg xs)
include h rd
theorem rnd_known : ∀ x ∈ xs, ∃ b ∈ lg, x ∈ b.1 := fun x hx => by
  obtain ⟨i, hi, e⟩ := List.mem_iff_getElem.mp hx
  have hg : xs.getD i 0 = x := by rw [List.getD_eq_getElem?_getD, List.getElem?_eq_getElem hi]; exact e
  by_cases hl : i + 1 < xs.length
  · obtain ⟨_, b, hb, h1, _⟩ := rd.st i hl
    rw [hg] at h1
    exact ⟨b, hb, (h.ch b hb).sub x h1⟩
  · have : i = xs.length - 1 := by omega
    subst this
    obtain ⟨_, b, hb, h1, _⟩ := rd.bk
    rw [hg] at h1
    exact ⟨b, hb, (h.ch b hb).sub x h1⟩
theorem rnd_few : xs.length < 64 := by
  obtain ⟨th, t1, t2⟩ := h.few
  have := nodup_le rd.nd (m := th) fun x hx => by
    obtain ⟨b, hb, hx⟩ := rnd_known h rd x hx
    exact t2 b hb x hx
  omega
end
theorem ix_getD {xs : List Int} {k : Nat} (hk : k < xs.length) : op2 idxT (enL xs) (.int (k : Int)) = some (.int (xs.getD k 0)) := by
  rw [c_ixl]
  unfold enI
  rw [atI_nat (v := .int (xs.getD k 0)) (by simp [hk, List.getD_eq_getElem?_getD])]
theorem ix_m1 {xs : List Int} (h : 1 ≤ xs.length) : op2 idxT (enL xs) (.int (-1)) = some (.int (xs.getD (xs.length - 1) 0)) := by
  rw [c_ixl]
  unfold atI
  have : ixN (enI xs).length (-1) = some (xs.length - 1) := by
    unfold ixN
    rw [if_neg (by omega), if_pos (by simp [enI]; omega)]
    simp [enI]; omega
  rw [this, Option.bind_some]
  simp only [enI, List.getElem?_map, List.getD_eq_getElem?_getD]
  rw [List.getElem?_eq_getElem (by omega)]
  rfl
theorem pln_tups (bs : List Buy) : Pln 2 (.list (bs.map fun b => PyData.tuple (enI b.2))) := by
  intro d hd
  obtain ⟨b, _, rfl⟩ := List.mem_map.mp hd
  exact pln_ints b.2
theorem nil_tups (bs : List Buy) : (PyData.list (bs.map fun b => PyData.tuple (enI b.2))) = .list [] ↔ bs = [] := by
  simp
end C
namespace C
open PySem PySem.Spec PyProof.Rows L2 M N B
def sB (lg : List Buy) (x y : Int) : Bool := lg.any fun c => decide (x ∈ c.2) && decide (y ∈ c.1)
def tB (lg : List Buy) (x y : Int) : Bool := lg.any fun c => (decide (x ∈ c.2) && decide (y ∈ c.1)) && !decide (y ∈ c.2)
theorem flt_any {α : Type} (p : α → Bool) (xs : List α) : decide (xs.filter p = []) = !xs.any p := by
  rw [Bool.eq_iff_iff, decide_eq_true_eq, List.filter_eq_nil_iff]
  simp
theorem bars_turnb {lg : List Buy} (hl : lg.length ≤ 1000) {x y : Int} (b : Bool) {xs : List Int} {k : D} (hx : (xop idxT (some (enL xs)) (xop subT (some k) (some (.int 1)))) = some (.int x)) (hy : xop idxT (some (enL xs)) (some k) = some (.int y)) :
    P.law_bars_2_L1 (enL xs) (enBk lg) (.bool b) k = some (if sB lg x y then .nx (.bool (b || tB lg x y)) else .rt (.bool false)) := by
  obtain ⟨f, hf⟩ : ∃ f : List Buy, f = lg.filter fun c => decide (x ∈ c.2) && decide (y ∈ c.1) := ⟨_, rfl⟩
  have fl : f.length ≤ 1000 := by rw [hf]; exact Nat.le_trans (List.length_filter_le _ _) hl
  have lc : xlc (fun d => un2 d fun offers taken => xflt (xand (xbool (xop inT (some (.int x)) (some taken))) (xbool (xop inT (some (.int y)) (some offers)))) (some taken)) (iseq (some (enBk lg))) = some (.list (f.map fun b => PyData.tuple (enI b.2))) := by
    rw [show iseq (some (enBk lg)) = some (lg.map enB) from rfl, xlc_of enB (fun c => decide (x ∈ c.2) && decide (y ∈ c.1)) (fun b => PyData.tuple (enI b.2)) lg (by unfold LIM; omega) fun c hc => ?_]
    · rw [hf]
    · unfold enB
      simp only [c_un2, c_xop, in_t, c_xbool, c_xand, c_xif]
      cases decide (x ∈ c.2) <;> cases decide (y ∈ c.1) <;> rfl
  have e0 : op2 M.eqT (.list (f.map fun b => PyData.tuple (enI b.2))) (.list []) = some (.bool (!sB lg x y)) := by
    rw [c_eq (P := f = []) (e := .list []) (pln_tups f) (pln_tups []) (nil_tups f), hf, flt_any]
    rfl
  have e1 : xlc (fun taken_2 => xflt (xbool (xop notInT (some (.int y)) (some taken_2))) (some taken_2)) (iseq (some (.list (f.map fun b => PyData.tuple (enI b.2))))) = some (.list ((f.filter fun c => !decide (y ∈ c.2)).map fun b => PyData.tuple (enI b.2))) := by
    rw [c_iseq1, xlc_of (fun b : Buy => PyData.tuple (enI b.2)) (fun c => !decide (y ∈ c.2)) (fun b => PyData.tuple (enI b.2)) f (by unfold LIM; omega) fun c hc => ?_]
    simp only [c_xop, notIn_t, c_xbool, flt_bool]
  have tt : (f.any fun c => !decide (y ∈ c.2)) = tB lg x y := by rw [hf, List.any_filter]; rfl
  have e2 : op2 M.neT (.list ((f.filter fun c => !decide (y ∈ c.2)).map fun b => PyData.tuple (enI b.2))) (.list []) = some (.bool (tB lg x y)) := by
    rw [c_ne (P := (f.filter fun c => !decide (y ∈ c.2)) = []) (e := .list []) (pln_tups _) (pln_tups []) (nil_tups _), flt_any, tt, Bool.not_not]
  unfold P.law_bars_2_L1
  rw [hx, hy]
  simp only [Option.bind_some]
  rw [lc]
  simp only [c_xop] at e1
  simp only [Option.bind_some, c_xlst, c_xseq0, Option.map_some, c_xop, e0, c_xbool]
  rw [e1]
  simp only [c_xop, e2, c_xmor, c_xbool]
  cases sB lg x y <;> cases b <;> rfl
theorem or_loop {step : D → D → Option (Ct D D)} (s t : Nat → Bool) : ∀ (ks : List Nat) (b : Bool), (∀ k ∈ ks, ∀ b, step (.bool b) (.int (k : Int)) = some (if s k then .nx (.bool (b || t k)) else .rt (.bool false))) → foldC step (ks.map fun (k : Nat) => PyData.int (k : Int)) (.bool b) = some (if ks.all s then .nx (.bool (b || ks.any t)) else .rt (.bool false))
  | [], b, _ => by simp [foldC]
  | k :: r, b, h => by
    have h1 := h k List.mem_cons_self b
    rw [List.map_cons, foldC, h1, Option.bind_some, List.all_cons, List.any_cons]
    cases hg : s k with
    | false => rfl
    | true =>
      have := or_loop s t r (b || t k) fun k' hk' => h k' (List.mem_cons_of_mem _ hk')
      simp only [if_true, Bool.true_and]
      rw [this, Bool.or_assoc]
theorem turn_all {n : Nat} (hn : 1 ≤ n) (R : Nat → Nat → Bool) : ((List.range n).all fun k => R ((k + n - 1) % n) k) = ((List.range n).all fun k => R k ((k + 1) % n)) := by
  rw [Bool.eq_iff_iff, List.all_eq_true, List.all_eq_true]
  constructor
  · intro h k hk
    have hk := List.mem_range.mp hk
    by_cases e : k + 1 < n
    · have := h (k + 1) (List.mem_range.mpr e)
      rw [show k + 1 + n - 1 = k + n by omega, Nat.add_mod_right, Nat.mod_eq_of_lt hk] at this
      rw [Nat.mod_eq_of_lt e]; exact this
    · have := h 0 (List.mem_range.mpr (by omega))
      rw [show 0 + n - 1 = k by omega, Nat.mod_eq_of_lt hk] at this
      rw [show k + 1 = n by omega, Nat.mod_self]; exact this
  · intro h k hk
    have hk := List.mem_range.mp hk
    by_cases e : k = 0
    · subst e
      have := h (n - 1) (List.mem_range.mpr (by omega))
      rw [show n - 1 + 1 = n by omega, Nat.mod_self] at this
      rw [show 0 + n - 1 = n - 1 by omega, Nat.mod_eq_of_lt (by omega)]; exact this
    · have := h (k - 1) (List.mem_range.mpr (by omega))
      rw [show k - 1 + 1 = k by omega, Nat.mod_eq_of_lt hk] at this
      rw [show k + n - 1 = (k - 1) + n by omega, Nat.add_mod_right, Nat.mod_eq_of_lt (by omega)]; exact this
theorem turn_any {n : Nat} (hn : 1 ≤ n) (R : Nat → Nat → Bool) : ((List.range n).any fun k => R ((k + n - 1) % n) k) = ((List.range n).any fun k => R k ((k + 1) % n)) := by
  have := turn_all hn fun a b => !R a b
  rw [List.any_eq_not_all_not, List.any_eq_not_all_not, this]
theorem st_sB {lg : List Buy} {x y : Int} (h : x ≠ y) : St1 lg x y ↔ sB lg x y = true := by
  unfold St1 sB
  simp only [List.any_eq_true, Bool.and_eq_true, decide_eq_true_eq]
  exact ⟨fun ⟨_, h⟩ => h, fun z => ⟨h, z⟩⟩
theorem st_tB {lg : List Buy} {x y : Int} (h : x ≠ y) : St2 lg x y ↔ tB lg x y = true := by
  unfold St2 tB
  simp only [List.any_eq_true, Bool.and_eq_true, decide_eq_true_eq, Bool.not_eq_true', decide_eq_false_iff_not]
  exact ⟨fun ⟨_, b, h1, h2, h3, h4⟩ => ⟨b, h1, ⟨h2, h3⟩, h4⟩, fun ⟨b, h1, ⟨h2, h3⟩, h4⟩ => ⟨h, b, h1, h2, h3, h4⟩⟩
theorem steps_I {xs : List Int} (h1 : 1 ≤ xs.length) (h100 : xs.length ≤ 1000) : P.steps_of (enL xs) = some (.list ((List.range xs.length).map fun k => .tuple [.int (xs.getD k 0), .int (xs.getD ((k + 1) % xs.length) 0)])) := by
  have sm : smallI (xs.length : Int) := small_of (by omega) (by omega)
  have hp0 : (xs.length : Int) ≠ 0 := by omega
  unfold P.steps_of
  simp only [c_xf1, len_L, c_irng1, sm, if_true]
  refine xmap_range xs.length _ (lim_of (by omega)) fun k hk => ?_
  have em : ((k : Int) + 1).fmod (xs.length : Int) = (((k + 1) % xs.length : Nat) : Int) := by
    rw [Int.fmod_eq_emod_of_nonneg _ (by omega), Int.natCast_emod]
    rfl
  simp only [c_xop, ix_getD hk, c_add, c_mod, hp0, if_false, em, ix_getD (Nat.mod_lt (k + 1) (by omega : 0 < xs.length)), c_xtup, c_xseq1, c_xseq0, Option.map_some]
theorem any_bools (xs : List Bool) : (anyT [.p (.list (enBl xs))]).bind T.pure? = some (.bool (xs.any id)) := by rw [anyT_b]; rfl
theorem at_bl {n : Nat} {f : Nat → Bool} {j : Nat} (hj : j < n) : atI (enBl ((List.range n).map f)) (j : Int) = some (.bool (f j)) := by
  rw [atI_nat (v := .bool (f j)) (by unfold enBl; simp [hj])]
theorem getD_mem {xs : List Int} {k : Nat} (h : k < xs.length) : xs.getD k 0 ∈ xs := by
  rw [List.getD_eq_getElem?_getD, List.getElem?_eq_getElem h]
  exact List.getElem_mem h
theorem bars_both {lg : List Buy} {xs : List Int} (h : LogOk lg) (hl : lg.length ≤ 1000) (hxs : xs.length ≤ 100) : ∃ b, P.bars_log (enBk lg) (enL xs) = some (.bool b) ∧ P.law_bars_2 (enBk lg) (enL xs) = some (.bool b) := by
  have ls := lenSet_l xs (by omega)
  have dd := ddup_eq (ns := xs)
  have kn : xlc (fun one => xflt (xbool (xop notInT (some one) (some (enL (natI (plc lg)))))) (some one)) (iseq (some (enL xs))) = some (enL (xs.filter fun x => !decide (x ∈ natI (plc lg)))) := by
    rw [c_iseq1, lc_ints (fun x => !decide (x ∈ natI (plc lg))) xs (by omega) fun x hx => by rw [c_xop, notIn_l, c_xbool, flt_bool]]
  have kn2 : xmap (fun one => xop inT (some one) (some (enL (natI (plc lg))))) (iseq (some (enL xs))) = some (.list (enBl (xs.map fun x => decide (x ∈ natI (plc lg))))) := by
    have := xmap_of (h := fun one => xop inT (some one) (some (enL (natI (plc lg))))) PyData.int (fun x => .bool (decide (x ∈ natI (plc lg)))) xs (lim_of (by omega)) fun x _ => by rw [c_xop, in_l]
    unfold enBl
    rw [List.map_map, c_iseq1]
    exact this
  unfold P.bars_log P.law_bars_2
  rw [show ap1 P.things_in (some (enBk lg)) = some (enL (natI (plc lg))) from things_in h, show ap1 P.law_offered (some (enBk lg)) = some (enL (natI (plc lg))) from p_offered h, Option.bind_some, Option.bind_some, kn, kn2]
  simp only [c_xf1, len_L, ls, c_xop, c_lt, c_xbool, c_nei, c_xor, c_xlst, c_xseq0, Option.map_some, ne_L0, all_bools, c_xnot]
  by_cases h2 : 2 ≤ xs.length
  · have h2' : ¬ ((xs.length : Int) < 2) := by omega
    rw [decide_eq_false h2', c_xif_f, c_xif_f]
    by_cases nd : xs.Nodup
    · have nd' : ((ddup xs).length : Int) = (xs.length : Int) := by rw [dd.mpr nd]
      rw [decide_eq_true nd', Bool.not_true, c_xif_f, c_xif_f]
      rw [flt_any]
      by_cases hk : ∀ x ∈ xs, x ∈ natI (plc lg)
      · have a1 : ((xs.map fun x => decide (x ∈ natI (plc lg))).all id) = true := by
          rw [List.all_map, List.all_eq_true]; intro x hx; simp [hk x hx]
        have a2 : (xs.any fun x => !decide (x ∈ natI (plc lg))) = false := by
          rw [Bool.eq_false_iff]; intro e
          obtain ⟨x, hx, e⟩ := List.any_eq_true.mp e
          simp [hk x hx] at e
        rw [a1, a2]
        simp only [Bool.not_true, Bool.not_false, c_xif_f]
        obtain ⟨f, g, ew, hw⟩ := log_ways h
        rw [c_ap2, show enL (natI (plc lg)) = PyData.list (enI (natI (plc lg))) from rfl, ew, Option.bind_some, c_un2]
        obtain ⟨iF, hiF⟩ : ∃ iF : Int → Nat, ∀ x, x ∈ natI (plc lg) → iF x < (plc lg).length ∧ pI lg (iF x) = x := by
          refine Classical.axiomOfChoice (r := fun x i => x ∈ natI (plc lg) → i < (plc lg).length ∧ pI lg i = x) fun x => ?_
          by_cases hx : x ∈ natI (plc lg)
          · obtain ⟨b, hb, hx'⟩ := (mem_plcI h).mp hx
            obtain ⟨i, hi⟩ := pI_of h hb hx'
            exact ⟨i, fun _ => hi⟩
          · exact ⟨0, fun z => absurd z hx⟩
        have nx : ∀ k : Nat, (k + 1) % xs.length < xs.length := fun k => Nat.mod_lt _ (by omega)
        have dist : ∀ k, k < xs.length → xs.getD k 0 ≠ xs.getD ((k + 1) % xs.length) 0 := fun k hk' e => by
          have hk2 := nx k
          rw [List.getD_eq_getElem?_getD, List.getD_eq_getElem?_getD, List.getElem?_eq_getElem hk', List.getElem?_eq_getElem hk2] at e
          have e : xs[k] = xs[(k + 1) % xs.length] := e
          have := (List.getElem_inj nd).mp e
          by_cases e3 : k + 1 < xs.length
          · rw [Nat.mod_eq_of_lt e3] at this; omega
          · rw [show k + 1 = xs.length by omega, Nat.mod_self] at this; omega
        have pr : xmap (fun d => un2 d fun one_2 other => xtup [xop idxOfT (some (PyData.list (enI (natI (plc lg))))) (some one_2), xop idxOfT (some (PyData.list (enI (natI (plc lg))))) (some other)]) (iseq (ap1 P.steps_of (some (enL xs)))) = some (.list ((List.range xs.length).map fun k => .tuple [.int (iF (xs.getD k 0) : Int), .int (iF (xs.getD ((k + 1) % xs.length) 0) : Int)])) := by
          rw [c_ap1, steps_I (by omega) (by omega), c_iseq1]
          refine xmap_of _ _ _ (lim_of (by simp; omega)) fun k hk' => ?_
          have hk' := List.mem_range.mp hk'
          have b1 := hiF _ (hk _ (getD_mem hk'))
          have b2 := hiF _ (hk _ (getD_mem (nx k)))
          have i1 := idx_pI b1.1
          have i2 := idx_pI b2.1
          rw [b1.2] at i1
          rw [b2.2] at i2
          simp only [un2, c_xop, i1, i2, c_xtup, c_xseq1, c_xseq0, Option.map_some]
        have look : ∀ (F : BF2) (S : Int → Int → Bool), (∀ k, k < xs.length → F (iF (xs.getD k 0)) (iF (xs.getD ((k + 1) % xs.length) 0)) = S (xs.getD k 0) (xs.getD ((k + 1) % xs.length) 0)) → xmap (fun d => un2 d fun one_3 other_2 => xop idxT (xop idxT (some (enW (bRows (plc lg).length F))) (some one_3)) (some other_2)) (some ((List.range xs.length).map fun k => .tuple [.int (iF (xs.getD k 0) : Int), .int (iF (xs.getD ((k + 1) % xs.length) 0) : Int)])) = some (.list (enBl ((List.range xs.length).map fun k => S (xs.getD k 0) (xs.getD ((k + 1) % xs.length) 0)))) := fun F S hFS => by
          have := xmap_of (h := fun d => un2 d fun one_3 other_2 => xop idxT (xop idxT (some (enW (bRows (plc lg).length F))) (some one_3)) (some other_2)) (fun k : Nat => PyData.tuple [.int (iF (xs.getD k 0) : Int), .int (iF (xs.getD ((k + 1) % xs.length) 0) : Int)]) (fun k => .bool (S (xs.getD k 0) (xs.getD ((k + 1) % xs.length) 0))) (List.range xs.length) (lim_of (by simp; omega)) fun k hk' => by
            have hk' := List.mem_range.mp hk'
            have b1 := hiF _ (hk _ (getD_mem hk'))
            have b2 := hiF _ (hk _ (getD_mem (nx k)))
            simp only [un2, c_xop, ix_W b1.1]
            rw [c_ixl, at_bl b2.1, hFS k hk']
          unfold enBl
          rw [List.map_map]
          exact this
        have l1 := look f (sB lg) fun k hk' => by
          have b1 := hiF _ (hk _ (getD_mem hk'))
          have b2 := hiF _ (hk _ (getD_mem (nx k)))
          have := (hw _ _ b1.1 b2.1).1
          rw [b1.2, b2.2, st_sB (dist k hk')] at this
          exact Bool.eq_iff_iff.mpr this
        have l2 := look g (tB lg) fun k hk' => by
          have b1 := hiF _ (hk _ (getD_mem hk'))
          have b2 := hiF _ (hk _ (getD_mem (nx k)))
          have := (hw _ _ b1.1 b2.1).2
          rw [b1.2, b2.2, st_tB (dist k hk')] at this
          exact Bool.eq_iff_iff.mpr this
        have sm : smallI (xs.length : Int) := small_of (by omega) (by omega)
        have lp := or_loop (step := fun s d => P.law_bars_2_L1 (enL xs) (enBk lg) s d) (fun k => sB lg (xs.getD ((k + xs.length - 1) % xs.length) 0) (xs.getD k 0)) (fun k => tB lg (xs.getD ((k + xs.length - 1) % xs.length) 0) (xs.getD k 0)) (List.range xs.length) false fun k hk' b => by
          have hk' := List.mem_range.mp hk'
          refine bars_turnb hl b ?_ (by rw [c_xop, ix_getD hk'])
          cases k with
          | zero =>
            rw [c_xop, c_sub, show ((0 : Nat) : Int) - 1 = -1 from rfl, c_xop, ix_m1 (by omega), show 0 + xs.length - 1 = xs.length - 1 by omega, Nat.mod_eq_of_lt (by omega)]
          | succ k =>
            rw [c_xop, c_sub, show ((k + 1 : Nat) : Int) - 1 = (k : Int) by omega, c_xop, ix_getD (by omega), show k + 1 + xs.length - 1 = k + xs.length by omega, Nat.add_mod_right, Nat.mod_eq_of_lt (by omega)]
        have t1 := turn_all (n := xs.length) (by omega) fun a b => sB lg (xs.getD a 0) (xs.getD b 0)
        have t2 := turn_any (n := xs.length) (by omega) fun a b => tB lg (xs.getD a 0) (xs.getD b 0)
        rw [t1, t2, ← rangeD_map] at lp
        refine ⟨((List.range xs.length).all fun k => sB lg (xs.getD k 0) (xs.getD ((k + 1) % xs.length) 0)) && ((List.range xs.length).any fun k => tB lg (xs.getD k 0) (xs.getD ((k + 1) % xs.length) 0)), ?_, ?_⟩
        · simp only [c_xop] at pr
          rw [pr, Option.bind_some, c_iseq1]
          simp only [c_xop] at l1 l2
          rw [l1, l2, c_xf1, c_xf1, all_bools, any_bools, List.all_map, List.any_map, c_xmand, c_xbool]
          show xif (some ((List.range xs.length).all fun k => sB lg (xs.getD k 0) (xs.getD ((k + 1) % xs.length) 0))) (some (PyData.bool ((List.range xs.length).any fun k => tB lg (xs.getD k 0) (xs.getD ((k + 1) % xs.length) 0)))) (some (PyData.bool false)) = _
          cases (List.range xs.length).all fun k => sB lg (xs.getD k 0) (xs.getD ((k + 1) % xs.length) 0) <;> rfl
        · rw [Option.bind_some, c_irng1, if_pos sm, Option.bind_some, lp]
          cases (List.range xs.length).all fun k => sB lg (xs.getD k 0) (xs.getD ((k + 1) % xs.length) 0) <;> rfl
      · have a1 : ((xs.map fun x => decide (x ∈ natI (plc lg))).all id) = false := by
          rw [Bool.eq_false_iff]; intro e
          rw [List.all_map, List.all_eq_true] at e
          exact hk fun x hx => by simpa using e x hx
        have a2 : (xs.any fun x => !decide (x ∈ natI (plc lg))) = true := by
          apply Classical.byContradiction; intro e
          rw [Bool.not_eq_true] at e
          exact hk fun x hx => by
            have := List.any_eq_false.mp e x hx
            simpa using this
        rw [a1, a2]
        exact ⟨false, rfl, rfl⟩
    · have nd' : ¬ ((ddup xs).length : Int) = (xs.length : Int) := fun e => nd (dd.mp (by omega))
      rw [decide_eq_false nd']
      exact ⟨false, rfl, rfl⟩
  · have h2' : ((xs.length : Int) < 2) := by omega
    rw [decide_eq_true h2']
    exact ⟨false, rfl, rfl⟩
end C
namespace C
open PySem PySem.Spec PyProof.Rows L2 M N B
end C
namespace C
open PySem PySem.Spec PyProof.Rows L2 M N B
theorem xmap2_of {α : Type} {h : D → Option (List D)} (en : α → D) (f : α → List D) (xs : List α) (hl : xs.length ≤ LIM) (hx : ∀ x ∈ xs, h (en x) = some (f x)) : xmap2 h (some (xs.map en)) = some (xs.map f) := by
  have : mapP2 h (xs.map en) = some (xs.map f) := by
    clear hl
    induction xs with
    | nil => rfl
    | cons a r ih => simp only [List.map_cons, mapP2, hx a List.mem_cons_self, Option.bind_some, ih fun x hx' => hx x (List.mem_cons_of_mem _ hx'), Option.map_some]
  simp only [xmap2, Option.bind_some, this, List.length_map, hl, if_true]
theorem mem_set {α : Type} {l : List α} {i : Nat} {x y : α} (h : y ∈ l.set i x) : y ∈ l ∨ y = x := by
  rcases List.mem_or_eq_of_mem_set h with z | z
  · exact .inl z
  · exact .inr z
structure Bt (n a s : Nat) (own : Bool) (rs : List (Bool × List Rat)) : Prop where
  len : rs.length = n
  own : own = true → ∀ r ∈ rs, r.1 = true
  few : ∀ r ∈ rs, r.2.length ≤ a
  sz : ∀ r ∈ rs, ∀ q ∈ r.2, SzQ s q
theorem Bt.set {n a s a' s' : Nat} {w w' : Bool} {rs : List (Bool × List Rat)} (h : Bt n a s w rs) (i : Nat) {o : Bool} {l' : List Rat} (ha : a ≤ a') (hs : s ≤ s') (hw : w' = true → w = true ∧ o = true) (h1 : l'.length ≤ a') (h2 : ∀ q ∈ l', SzQ s' q) : Bt n a' s' w' (rs.set i (o, l')) :=
  ⟨by simp [h.len], fun e r hr => by
      rcases mem_set hr with z | rfl
      · exact h.own (hw e).1 r z
      · exact (hw e).2, fun r hr => by
      rcases mem_set hr with z | rfl
      · exact Nat.le_trans (h.few r z) ha
      · exact h1, fun r hr q hq => by
      rcases mem_set hr with z | rfl
      · exact (h.sz r z q hq).mono hs
      · exact h2 q hq⟩
theorem Bt.mono {n a s a' s' : Nat} {w w' : Bool} {rs : List (Bool × List Rat)} (h : Bt n a s w rs) (ha : a ≤ a') (hs : s ≤ s') (hw : w' = true → w = true) : Bt n a' s' w' rs :=
  ⟨h.len, fun e => h.own (hw e), fun r hr => Nat.le_trans (h.few r hr) ha, fun r hr q hq => (h.sz r hr q hq).mono hs⟩
theorem Bt.at {n a s : Nat} {rs : List (Bool × List Rat)} (h : Bt n a s true rs) {i : Nat} (hi : i < rs.length) : ∃ l, rs[i] = (true, l) ∧ l.length ≤ a ∧ (∀ q ∈ l, SzQ s q) := by
  have o := h.own rfl _ (List.getElem_mem hi)
  have f := h.few _ (List.getElem_mem hi)
  have z := h.sz _ (List.getElem_mem hi)
  exact ⟨rs[i].2, by rw [← o], f, z⟩
theorem ixN_ok {n j : Nat} (h : j < n) : ixN n (j : Int) = some j := by unfold ixN; rw [if_pos (by omega), if_pos (by omega)]; simp
theorem in_ok {ts : List T} {j : Nat} (y : D) (h : j ≤ 1000) (hl : ts.length ≤ 1000) : inT' (.int (j : Int)) y ts = some (ts.take j ++ [.p y] ++ ts.drop j) := by
  unfold inT'
  rw [show intD? (PyData.int (j : Int)) = some (j : Int) from rfl, Option.bind_some]
  unfold insN
  rw [if_pos ⟨by omega, by omega, by unfold LIM; omega⟩, Int.toNat_natCast]
theorem pk_mod {picks : List Int} {k : Nat} {z : Nat} (hk : k < picks.length) (hz : 0 < z) : ∃ j : Nat, j < z ∧ xop modT (xop idxT (some (.list (enI picks))) (some (.int (k : Int)))) (some (.int (z : Int))) = some (.int (j : Int)) := by
  obtain ⟨p, m, a⟩ := at_ex (xs := picks) (i := (k : Int)) (by omega) (by omega)
  have hb := modB (x := p) (k := z) (by omega)
  refine ⟨(p.fmod z).toNat, by omega, ?_⟩
  rw [c_xop, c_ixl, a, c_xop, c_mod, if_neg (by omega)]
  congr 2
  omega
end C
namespace C
open PySem PySem.Spec PyProof.Rows L2 M N B
def rowZ (own : Bool) (l : List Int) : T := if own then own1 (enI l) else .p (enL l)
def tZ (rs : List (Bool × List Int)) : T := .ml (rs.map fun r => rowZ r.1 r.2)
theorem w1_rowZ (o : Bool) (l : List Int) : w1D (rowZ o l) = some (enL l) := by
  cases o
  · simp [rowZ, w1D]
  · simp only [rowZ, if_true, own1, w1D, pures_map, Option.map_some]
theorem snap_rowZ (o : Bool) (l : List Int) : (rowZ o l).snap = some (enL l) := by
  cases o
  · simp [rowZ, T.snap]
  · simp [rowZ, snap_own1]
theorem snap_tZ (rs : List (Bool × List Int)) : (tZ rs).snap = some (enLs (rs.map fun r => r.2)) := by
  have : snaps (rs.map fun r => rowZ r.1 r.2) = some (rs.map fun r => enL r.2) := by
    induction rs with
    | nil => simp [snaps]
    | cons a r ih => simp [snaps, snap_rowZ, ih]
  simp only [tZ, T.snap, this, Option.map_some, enLs, List.map_map]
  rfl
theorem xlen_tZ (rs : List (Bool × List Int)) : xlenT (tZ rs) = some (.int rs.length) := by simp [xlenT, tZ, lenT, T.kids, T.pure?]
theorem xrow_tZ {rs : List (Bool × List Int)} {i : Nat} (hi : i < rs.length) {l : List Int} {o : Bool} (r : rs[i] = (o, l)) : xrow (tZ rs) (some (.int (i : Int))) = some (enL l) := by
  unfold xrow tZ
  simp only [Option.bind_some, strip_ml]
  have : idxT (.ml (rs.map fun r => rowZ r.1 r.2)) (.p (.int (i : Int))) = some (rowZ rs[i].1 rs[i].2) := by
    unfold idxT
    simp only [ev_int, Option.bind_some]
    have : (T.ml (rs.map fun r => rowZ r.1 r.2)).kids = some (rs.map fun r => rowZ r.1 r.2) := rfl
    rw [this, Option.bind_some, atI_nat (v := rowZ rs[i].1 rs[i].2) (by simp [hi])]
  rw [this, Option.bind_some, w1_rowZ, r]
theorem step_tZ {rs : List (Bool × List Int)} {i : Nat} (hi : i < rs.length) : ((some ([] : List Stp)).bind fun π => (some (PyData.int (i : Int))).bind fun k => stepP (tZ rs) k π) = some [.ix i] := by
  have hx : ixN rs.length (i : Int) = some i := ixN_ok hi
  simp [stepP, intD?, T.at, tZ, T.own?, hx]
theorem set_tZ {rs : List (Bool × List Int)} {i : Nat} (hi : i < rs.length) (l' : List Int) : updP (tZ rs) (seT (.int (i : Int)) (enL l')) [] = some (tZ (rs.set i (false, l'))) := by
  have hx : ixN rs.length (i : Int) = some i := ixN_ok hi
  simp only [updP, T.at, tZ, strip_ml, Option.bind_some, seT, intD?, setN, List.length_map, hx, Option.map_some, T.put, wrap_ml]
  congr 2
  rw [List.map_set]
  rfl
theorem ins_e {rs : List (Bool × List Int)} {i : Nat} (hi : i ≤ 1000) (hl : rs.length ≤ 1000) (l' : List Int) : inT' (.int (i : Int)) (enL l') (rs.map fun r => rowZ r.1 r.2) = some ((rs.take i ++ [(false, l')] ++ rs.drop i).map fun r => rowZ r.1 r.2) := by
  rw [in_ok _ hi (by rw [List.length_map]; exact hl), List.map_append, List.map_append, List.map_take, List.map_drop, List.map_cons, List.map_nil]
  rfl
theorem upd_root {ts ts' : List T} {f : List T → Option (List T)} (h : f ts = some ts') : updP (.ml ts) f [] = some (.ml ts') := by
  simp only [updP, T.at, strip_ml, Option.bind_some, h, T.put, wrap_ml]
theorem ins_tZ {rs : List (Bool × List Int)} {i : Nat} (hi : i ≤ 1000) (hl : rs.length ≤ 1000) (l' : List Int) : updP (tZ rs) (inT' (.int (i : Int)) (enL l')) [] = some (tZ (rs.take i ++ [(false, l')] ++ rs.drop i)) := upd_root (ins_e hi hl l')
theorem pop_tZ {rs : List (Bool × List Int)} {i j : Nat} (hi : i < rs.length) {l : List Int} (r : rs[i] = (true, l)) (hj : j < l.length) (hl : l.length ≤ 1000) : popPK (tZ rs) (.int (j : Int)) [.ix i] = some (tZ (rs.set i (true, l.eraseIdx j)), .int l[j]) := by
  have e : (rs.map fun r => rowZ r.1 r.2)[i]? = some (.ml ((enI l).map T.p)) := by
    rw [List.getElem?_map, List.getElem?_eq_getElem hi, r]
    simp [rowZ, own1]
  have g : ((enI l).map T.p)[j]? = some (.p (.int l[j])) := by simp [enI, hj]
  have p1 : popP (tZ rs) (j : Int) [.ix i] = some (tZ (rs.set i (true, l.eraseIdx j)), .int l[j]) := by
    have hx : ixN ((enI l).map T.p).length (j : Int) = some j := ixN_ok (by simpa [enI] using hj)
    simp only [popP, T.at, tZ, strip_ml, e, Option.bind_some, hx, g, T.pure?, T.put, Option.map_some, wrap_ml]
    congr 3
    rw [List.map_set]
    congr 1
    simp only [rowZ, if_true, own1]
    congr 1
    unfold enI
    rw [map_erase, map_erase]
  unfold popPK
  rw [show intD? (PyData.int (j : Int)) = some (j : Int) from rfl, Option.bind_some, if_pos ⟨by omega, by omega⟩, p1]
theorem fl_set {ls : List (List Int)} : ∀ {i : Nat} (hi : i < ls.length) (l' : List Int), (ls.set i l').flatten.length + ls[i].length = ls.flatten.length + l'.length := by
  induction ls with
  | nil => intro i hi; simp at hi
  | cons a r ih =>
    intro i hi l'
    cases i with
    | zero => simp only [List.set_cons_zero, List.flatten_cons, List.length_append, List.getElem_cons_zero]; omega
    | succ i =>
      have := ih (i := i) (by simpa using hi) l'
      simp only [List.set_cons_succ, List.flatten_cons, List.length_append, List.getElem_cons_succ]; omega
theorem fl_filter (p : List Int → Bool) : ∀ ls : List (List Int), (ls.filter p).flatten.length ≤ ls.flatten.length
  | [] => by simp
  | a :: r => by
    have := fl_filter p r
    rw [List.filter_cons]
    split
    · simp only [List.flatten_cons, List.length_append]; omega
    · simp only [List.flatten_cons, List.length_append]; omega
theorem fl_app (a b : List (List Int)) : (a ++ b).flatten.length = a.flatten.length + b.flatten.length := by rw [List.flatten_append, List.length_append]
theorem fl_td (ls : List (List Int)) (k : Nat) : (ls.take k).flatten.length + (ls.drop k).flatten.length = ls.flatten.length := by rw [← fl_app, List.take_append_drop]
theorem fl_at {ls : List (List Int)} {i : Nat} (hi : i < ls.length) : (ls.take i).flatten.length + ls[i].length + (ls.drop (i + 1)).flatten.length = ls.flatten.length := by
  have := fl_td ls i
  rw [List.drop_eq_getElem_cons hi, List.flatten_cons, List.length_append] at this
  omega
theorem fl_rev : ∀ ls : List (List Int), ls.reverse.flatten.length = ls.flatten.length
  | [] => rfl
  | a :: r => by rw [List.reverse_cons, fl_app, fl_rev r]; simp only [List.flatten_cons, List.flatten_nil, List.length_append, List.length_nil]; omega
theorem fl_mem {ls : List (List Int)} {l : List Int} (h : l ∈ ls) : l.length ≤ ls.flatten.length := by
  obtain ⟨i, hi, rfl⟩ := List.mem_iff_getElem.mp h
  have := fl_at hi
  omega
theorem sort_len (l : List Int) : (sortI l).length = l.length := (sortI_perm l).length_eq
theorem offT {α : Type} {c : Option Bool} {x y : Option α} (h : c = some false) : xif c x y = y := by rw [h, c_xif_f]
theorem onn {α : Type} {c : Option Bool} {x y : Option α} (h : c = some true) : xif c x y = x := by rw [h, c_xif_t]
theorem ceq_f {f k : Int} (h : f ≠ k) : xbool (xop M.eqT (some (.int f)) (some (.int k))) = some false := by rw [c_xop, c_eqi, c_xbool, decide_eq_false h]
theorem ceq_t {f k : Int} (h : f = k) : xbool (xop M.eqT (some (.int f)) (some (.int k))) = some true := by rw [c_xop, c_eqi, c_xbool, decide_eq_true h]
theorem clt_f {f k : Int} (h : ¬ f < k) : xbool (xop ltT (some (.int f)) (some (.int k))) = some false := by rw [c_xop, c_lt, c_xbool, decide_eq_false h]
theorem clt_t {f k : Int} (h : f < k) : xbool (xop ltT (some (.int f)) (some (.int k))) = some true := by rw [c_xop, c_lt, c_xbool, decide_eq_true h]
theorem cand_f {a b : Option Bool} (h : a = some false) : xand a b = some false := by rw [h, c_xand, c_xif_f]
theorem cand_t {a b : Option Bool} {v : Bool} (h : a = some true) (h2 : b = some v) : xand a b = some v := by rw [h, c_xand, c_xif_t, h2]
theorem sorted_L (l : List Int) : xf1 sortedT (some (enL l)) = some (enL (sortI l)) := by rw [c_xf1, sortedT_eq]
theorem lsI (x : Int) : xlst [some (.int x)] = some (enL [x]) := rfl
theorem addL {a b : List Int} (h : a.length + b.length ≤ 1000) : xop addT (some (enL a)) (some (enL b)) = some (enL (a ++ b)) := by rw [c_xop, add_L a b h]
theorem ne_filter {ls : List (List Int)} (hl : ls.length ≤ 1000) : xlc (fun level_2 => xflt (xbool (xop M.neT (some level_2) (xlst []))) (some level_2)) (some (ls.map enL)) = some (enLs (ls.filter fun l => !decide (l = []))) := by
  rw [xlc_of enL (fun l => !decide (l = [])) enL ls (lim_of (by omega)) fun l _ => by
    simp only [c_xlst, c_xseq0, Option.map_some, c_xop, ne_L0, c_xbool, flt_bool]]
  rfl
theorem addLs {a b : List (List Int)} (h : a.length + b.length ≤ 1000) : xop addT (some (enLs a)) (some (enLs b)) = some (enLs (a ++ b)) := by
  unfold enLs
  rw [c_xop, c_addl, if_pos (by simp [LIM]; omega)]
  simp
theorem toLs (ls : List (List Int)) (k : Nat) : xslice (some (enLs ls)) (some none) (xint (some (.int (k : Int)))) = some (enLs (ls.take k)) := by
  unfold enLs
  rw [c_xint, c_xslice, slice_l_to, ← List.map_take]
theorem fromLs {ls : List (List Int)} {k : Nat} (h : k ≤ ls.length) : xslice (some (enLs ls)) (xint (some (.int (k : Int)))) (some none) = some (enLs (ls.drop k)) := by
  unfold enLs
  rw [c_xint, c_xslice, slice_l_from (by simpa using h), ← List.map_drop]
theorem toL (l : List Int) (k : Nat) : xslice (some (enL l)) (some none) (xint (some (.int (k : Int)))) = some (enL (l.take k)) := by
  rw [c_xint, c_xslice, slice_l_to]; unfold enL enI; rw [← List.map_take]
theorem fromL {l : List Int} {k : Nat} (h : k ≤ l.length) : xslice (some (enL l)) (xint (some (.int (k : Int)))) (some none) = some (enL (l.drop k)) := by
  rw [c_xint, c_xslice, slice_l_from (by simpa [enI] using h)]; unfold enL enI; rw [← List.map_drop]
end C
namespace C
open PySem PySem.Spec PyProof.Rows L2 M N B
def sn (rs : List (Bool × List Int)) : List (List Int) := rs.map fun r => r.2
theorem sn_set (rs : List (Bool × List Int)) (i : Nat) (b : Bool) (l : List Int) : sn (rs.set i (b, l)) = (sn rs).set i l := by unfold sn; rw [List.map_set]
theorem sn_len (rs : List (Bool × List Int)) : (sn rs).length = rs.length := by simp [sn]
theorem sn_at {rs : List (Bool × List Int)} {i : Nat} (hi : i < rs.length) : rs[i] = (rs[i].1, (sn rs)[i]'(by rw [sn_len]; exact hi)) := by simp [sn]
theorem p_levels_spoilt {ls : List (List Int)} (hne : ∀ l ∈ ls, l ≠ []) (h1' : 1 ≤ ls.length) (hl : ls.length ≤ 100) (hfl : ls.flatten.length ≤ 100) {picks : List Int} (hp : 6 ≤ picks.length) :
    ∃ ls', P.law_levels_spoilt (enLs ls) (enL picks) = some (enLs ls') ∧ ls'.flatten.length ≤ ls.flatten.length + 1 ∧ ls'.length ≤ ls.length + 1 := by
  obtain ⟨rs, hrs⟩ : ∃ rs, rs = ls.map fun l => (true, l) := ⟨_, rfl⟩
  have srs : sn rs = ls := by rw [hrs]; unfold sn; rw [List.map_map]; exact List.map_id ls
  have lrs : rs.length = ls.length := by rw [hrs]; simp
  have cp : xmap2 (fun level => iseq (some level)) (iseq (some (enLs ls))) = some (ls.map enI) := by
    rw [show iseq (some (enLs ls)) = some (ls.map enL) from rfl]
    exact xmap2_of enL enI ls (lim_of (by omega)) fun l _ => rfl
  have ow : own2 (ls.map enI) = tZ rs := by
    rw [hrs]; unfold own2 tZ; rw [List.map_map, List.map_map]; rfl
  obtain ⟨a, ha, ea⟩ := pk_mod (picks := picks) (k := 0) (z := ls.length) (by omega) (by omega)
  have ea : xop modT (xop idxT (some (enL picks)) (some (.int 0))) (some (.int (ls.length : Int))) = some (.int (a : Int)) := ea
  have har : a < rs.length := by omega
  have hpos : 0 < ls[a].length := List.length_pos_iff.mpr (hne _ (List.getElem_mem ha))
  have la : ls[a].length ≤ 100 := Nat.le_trans (fl_mem (List.getElem_mem ha)) hfl
  have ra : rs[a] = (true, ls[a]) := by simp [hrs]
  have row := xrow_tZ har ra
  have xl : xlenT (tZ rs) = some (.int (ls.length : Int)) := by rw [xlen_tZ, lrs]
  have rl : xf1 lenT (xrow (tZ rs) (some (.int (a : Int)))) = some (.int (ls[a].length : Int)) := by rw [row, c_xf1, len_L]
  obtain ⟨k, hk, ek⟩ := pk_mod (picks := picks) (k := 1) (z := ls[a].length) (by omega) hpos
  have ek : xop modT (xop idxT (some (enL picks)) (some (.int 1))) (some (.int (ls[a].length : Int))) = some (.int (k : Int)) := ek
  obtain ⟨f, hf11, ef⟩ := pk_mod (picks := picks) (k := 2) (z := 11) (by omega) (by omega)
  have ef : xop modT (xop idxT (some (enL picks)) (some (.int 2))) (some (.int 11)) = some (.int (f : Int)) := ef
  obtain ⟨t, ht, et⟩ := pk_mod (picks := picks) (k := 3) (z := ls.length) (by omega) (by omega)
  have et : xop modT (xop idxT (some (enL picks)) (some (.int 3))) (some (.int (ls.length : Int))) = some (.int (t : Int)) := et
  have htr : t < rs.length := by omega
  have rt : rs[t] = (true, ls[t]) := by simp [hrs]
  have hpt : 0 < ls[t].length := List.length_pos_iff.mpr (hne _ (List.getElem_mem ht))
  obtain ⟨w, hw, ew⟩ := pk_mod (picks := picks) (k := 4) (z := 100) (by omega) (by omega)
  have ew : xop modT (xop idxT (some (enL picks)) (some (.int 4))) (some (.int 100)) = some (.int (w : Int)) := ew
  unfold P.law_levels_spoilt
  rw [cp, Option.bind_some, ow, xl, ea, Option.bind_some, rl, ek, Option.bind_some, ef, Option.bind_some]
  rcases (by omega : f < 2 ∨ f = 2 ∨ f = 3 ∨ f = 4 ∨ f = 5 ∨ f = 6 ∨ f = 7 ∨ 7 < f) with c | c | c | c | c | c | c | c
  · have hf : (f : Int) < 2 := by omega
    have h2 : (f : Int) ≠ 2 := by omega
    have h3 : (f : Int) ≠ 3 := by omega
    have h4 : (f : Int) ≠ 4 := by omega
    have h5 : (f : Int) ≠ 5 := by omega
    have h6 : (f : Int) ≠ 6 := by omega
    have h7 : (f : Int) ≠ 7 := by omega
    have key : ∃ ls' : List (List Int), (xif (xbool (xop M.eqT (some (.int (f : Int))) (some (.int 0)))) ((xop modT (xop idxT (some (enL picks)) (some (.int 3))) (xlenT (tZ (rs.set a (true, ls[a].eraseIdx k))))).bind fun other => (some []).bind fun π => (some other).bind fun l => (xf1 sortedT (xop addT (xrow (tZ (rs.set a (true, ls[a].eraseIdx k))) (some other)) (xlst [some (.int ls[a][k])]))).bind fun y => (updP (tZ (rs.set a (true, ls[a].eraseIdx k))) (seT l y) π).bind fun levels_3 => some levels_3) (some (tZ (rs.set a (true, ls[a].eraseIdx k))))).bind (fun levels_4 => (T.snap levels_4).bind fun levels_5 => (xlc (fun level_2 => xflt (xbool (xop M.neT (some level_2) (xlst []))) (some level_2)) (iseq (some levels_5))).bind fun levels_6 => some (T.p levels_6)) = some (.p (enLs ls')) ∧ ls'.flatten.length ≤ ls.flatten.length + 1 ∧ ls'.length ≤ ls.length + 1 := by
      obtain ⟨rs1, h1e⟩ : ∃ rs1, rs1 = rs.set a (true, ls[a].eraseIdx k) := ⟨_, rfl⟩
      have l1 : rs1.length = ls.length := by rw [h1e, List.length_set, lrs]
      have s1 : sn rs1 = ls.set a (ls[a].eraseIdx k) := by rw [h1e, sn_set, srs]
      have f1 := fl_set ha (ls[a].eraseIdx k)
      have f1' := List.length_eraseIdx_of_lt hk
      rw [← s1] at f1
      rw [← h1e]
      have fin : ∀ rs2 : List (Bool × List Int), rs2.length = ls.length → (sn rs2).flatten.length ≤ ls.flatten.length + 1 → ∃ ls' : List (List Int), (some (tZ rs2)).bind (fun levels_4 => (T.snap levels_4).bind fun levels_5 => (xlc (fun level_2 => xflt (xbool (xop M.neT (some level_2) (xlst []))) (some level_2)) (iseq (some levels_5))).bind fun levels_6 => some (T.p levels_6)) = some (.p (enLs ls')) ∧ ls'.flatten.length ≤ ls.flatten.length + 1 ∧ ls'.length ≤ ls.length + 1 := fun rs2 q1 q2 => by
        refine ⟨(sn rs2).filter fun l => !decide (l = []), ?_, Nat.le_trans (fl_filter _ _) q2, ?_⟩
        · rw [Option.bind_some, snap_tZ, Option.bind_some, show iseq (some (enLs (rs2.map fun r => r.2))) = some ((sn rs2).map enL) from rfl, ne_filter (by rw [sn_len]; omega), Option.bind_some]
        · have := List.length_filter_le (fun l : List Int => !decide (l = [])) (sn rs2)
          rw [sn_len] at this; omega
      by_cases h0 : (f : Int) = 0
      · rw [onn (ceq_t h0)]
        have ht1 : t < rs1.length := by omega
        have lt1 : (sn rs1)[t]'(by rw [sn_len]; exact ht1) ∈ sn rs1 := List.getElem_mem _
        have q := fl_mem lt1
        have f2 := fl_set (ls := sn rs1) (i := t) (by rw [sn_len]; exact ht1) (sortI ((sn rs1)[t]'(by rw [sn_len]; exact ht1) ++ [ls[a][k]]))
        rw [sort_len, List.length_append, List.length_singleton] at f2
        rw [xlen_tZ, l1, et, Option.bind_some, Option.bind_some, Option.bind_some, xrow_tZ ht1 (sn_at ht1), lsI, addL (by rw [List.length_singleton]; omega), sorted_L, Option.bind_some, set_tZ ht1, Option.bind_some]
        exact fin _ (by rw [List.length_set, l1]) (by rw [sn_set]; omega)
      · rw [offT (ceq_f h0)]
        exact fin _ l1 (by omega)
    obtain ⟨ls', k1, k2⟩ := key
    refine ⟨ls', ?_, k2⟩
    refine (congrArg (Option.bind · _) ((onn (clt_t hf)).trans (?_ : _ = some (T.p (enLs ls'))))).trans ?_
    · rw [step_tZ har, Option.bind_some, Option.bind_some, pop_tZ har ra hk (by omega), Option.bind_some]
      exact k1
    · rw [Option.bind_some]
      refine (congrArg (Option.bind · _) (offT (ceq_f h2))).trans ?_
      rw [Option.bind_some]
      refine (congrArg (Option.bind · _) (offT (ceq_f h3))).trans ?_
      rw [Option.bind_some]
      refine (congrArg (Option.bind · _) (offT (ceq_f h4))).trans ?_
      rw [Option.bind_some]
      refine (congrArg (Option.bind · _) (offT (cand_f (ceq_f h5)))).trans ?_
      refine (congrArg (fun z => Option.bind (Option.bind z _) _) (offT (ceq_f h5))).trans ?_
      rw [Option.bind_some, Option.bind_some]
      refine (congrArg (Option.bind · _) (offT (ceq_f h6))).trans ?_
      rw [Option.bind_some]
      refine (congrArg (Option.bind · _) (offT (ceq_f h7))).trans ?_
      rw [Option.bind_some]
      rfl
  · obtain ⟨L, hL⟩ : ∃ L, L = sortI (ls[a] ++ [ls[t].getD 0 0]) := ⟨_, rfl⟩
    have h1 : ¬ (f : Int) < 2 := by omega
    have h3 : (f : Int) ≠ 3 := by omega
    have h4 : (f : Int) ≠ 4 := by omega
    have h5 : (f : Int) ≠ 5 := by omega
    have h6 : (f : Int) ≠ 6 := by omega
    have h7 : (f : Int) ≠ 7 := by omega
    have hf : (f : Int) = 2 := by omega
    have f1 := fl_set ha L
    have lL : L.length = ls[a].length + 1 := by rw [hL, sort_len]; simp
    have sL : (rs.set a (false, L)).map (fun r => r.2) = ls.set a L := by have := sn_set rs a false L; rw [srs] at this; exact this
    refine ⟨ls.set a L, ?_, (by omega), (by rw [List.length_set]; omega)⟩
    refine (congrArg (Option.bind · _) (offT (clt_f h1))).trans ?_
    rw [Option.bind_some]
    refine (congrArg (Option.bind · _) ((onn (ceq_t hf)).trans (?_ : _ = some (tZ (rs.set a (false, L)))))).trans ?_
    · rw [xl, et, row, xrow_tZ htr rt, show xop idxT (some (enL ls[t])) (some (.int 0)) = some (.int (ls[t].getD 0 0)) from ix_getD (k := 0) hpt, lsI, addL (by rw [List.length_singleton]; omega), sorted_L, ← hL, Option.bind_some, Option.bind_some, Option.bind_some, set_tZ har, Option.bind_some]
    · rw [Option.bind_some]
      refine (congrArg (Option.bind · _) (offT (ceq_f h3))).trans ?_
      rw [Option.bind_some]
      refine (congrArg (Option.bind · _) (offT (ceq_f h4))).trans ?_
      rw [Option.bind_some]
      refine (congrArg (Option.bind · _) (offT (cand_f (ceq_f h5)))).trans ?_
      refine (congrArg (fun z => Option.bind (Option.bind z _) _) (offT (ceq_f h5))).trans ?_
      rw [Option.bind_some, Option.bind_some]
      refine (congrArg (Option.bind · _) (offT (ceq_f h6))).trans ?_
      rw [Option.bind_some]
      refine (congrArg (Option.bind · _) (offT (ceq_f h7))).trans ?_
      rw [Option.bind_some]
      rw [snap_tZ, sL]; rfl
  · obtain ⟨L, hL⟩ : ∃ L, L = sortI (ls[a] ++ [(w : Int)]) := ⟨_, rfl⟩
    have h1 : ¬ (f : Int) < 2 := by omega
    have h2 : (f : Int) ≠ 2 := by omega
    have h4 : (f : Int) ≠ 4 := by omega
    have h5 : (f : Int) ≠ 5 := by omega
    have h6 : (f : Int) ≠ 6 := by omega
    have h7 : (f : Int) ≠ 7 := by omega
    have hf : (f : Int) = 3 := by omega
    have f1 := fl_set ha L
    have lL : L.length = ls[a].length + 1 := by rw [hL, sort_len]; simp
    have sL : (rs.set a (false, L)).map (fun r => r.2) = ls.set a L := by have := sn_set rs a false L; rw [srs] at this; exact this
    refine ⟨ls.set a L, ?_, (by omega), (by rw [List.length_set]; omega)⟩
    refine (congrArg (Option.bind · _) (offT (clt_f h1))).trans ?_
    rw [Option.bind_some]
    refine (congrArg (Option.bind · _) (offT (ceq_f h2))).trans ?_
    rw [Option.bind_some]
    refine (congrArg (Option.bind · _) ((onn (ceq_t hf)).trans (?_ : _ = some (tZ (rs.set a (false, L)))))).trans ?_
    · rw [ew, row, lsI, addL (by rw [List.length_singleton]; omega), sorted_L, ← hL, Option.bind_some, Option.bind_some, Option.bind_some, set_tZ har, Option.bind_some]
    · rw [Option.bind_some]
      refine (congrArg (Option.bind · _) (offT (ceq_f h4))).trans ?_
      rw [Option.bind_some]
      refine (congrArg (Option.bind · _) (offT (cand_f (ceq_f h5)))).trans ?_
      refine (congrArg (fun z => Option.bind (Option.bind z _) _) (offT (ceq_f h5))).trans ?_
      rw [Option.bind_some, Option.bind_some]
      refine (congrArg (Option.bind · _) (offT (ceq_f h6))).trans ?_
      rw [Option.bind_some]
      refine (congrArg (Option.bind · _) (offT (ceq_f h7))).trans ?_
      rw [Option.bind_some]
      rw [snap_tZ, sL]; rfl
  · obtain ⟨ps, hps⟩ : ∃ ps, ps = [ls[a].take k, ls[a].drop k].filter fun l => !decide (l = []) := ⟨_, rfl⟩
    have h1 : ¬ (f : Int) < 2 := by omega
    have h2 : (f : Int) ≠ 2 := by omega
    have h3 : (f : Int) ≠ 3 := by omega
    have h5 : (f : Int) ≠ 5 := by omega
    have h6 : (f : Int) ≠ 6 := by omega
    have h7 : (f : Int) ≠ 7 := by omega
    have hf : (f : Int) = 4 := by omega
    have g1 := fl_at ha
    have g2 : ps.flatten.length ≤ ls[a].length := by
      rw [hps]; refine Nat.le_trans (fl_filter _ _) ?_; simp
    have g3 : ps.length ≤ 2 := by rw [hps]; exact List.length_filter_le _ _
    have g4 : xlc (fun level_3 => xflt (xbool (xop M.neT (some level_3) (xlst []))) (some level_3)) (iseq (xtup [some (enL (ls[a].take k)), some (enL (ls[a].drop k))])) = some (enLs ps) := by rw [hps]; exact ne_filter (ls := [ls[a].take k, ls[a].drop k]) (by simp)
    refine ⟨ls.take a ++ ps ++ ls.drop (a + 1), ?_, (by rw [fl_app, fl_app]; omega), (by rw [List.length_append, List.length_append, List.length_take, List.length_drop]; omega)⟩
    refine (congrArg (Option.bind · _) (offT (clt_f h1))).trans ?_
    rw [Option.bind_some]
    refine (congrArg (Option.bind · _) (offT (ceq_f h2))).trans ?_
    rw [Option.bind_some]
    refine (congrArg (Option.bind · _) (offT (ceq_f h3))).trans ?_
    rw [Option.bind_some]
    refine (congrArg (Option.bind · _) ((onn (ceq_t hf)).trans (?_ : _ = some (.p (enLs (ls.take a ++ ps ++ ls.drop (a + 1))))))).trans ?_
    · rw [row, toL, fromL (by omega), g4, Option.bind_some, snap_tZ, show (rs.map fun r => r.2) = ls from srs, Option.bind_some, toLs, addLs (by rw [List.length_take]; omega), show xop addT (some (PyData.int (a : Int))) (some (.int 1)) = some (.int ((a + 1 : Nat) : Int)) from by rw [c_xop, c_add]; rfl, fromLs (by omega), addLs (by rw [List.length_append, List.length_take, List.length_drop]; omega), Option.bind_some]
    · rw [Option.bind_some]
      refine (congrArg (Option.bind · _) (offT (cand_f (ceq_f h5)))).trans ?_
      refine (congrArg (fun z => Option.bind (Option.bind z _) _) (offT (ceq_f h5))).trans ?_
      rw [Option.bind_some, Option.bind_some]
      refine (congrArg (Option.bind · _) (offT (ceq_f h6))).trans ?_
      rw [Option.bind_some]
      refine (congrArg (Option.bind · _) (offT (ceq_f h7))).trans ?_
      rw [Option.bind_some]
      rfl
  · by_cases a0 : (a : Int) = 0
    · have h1 : ¬ (f : Int) < 2 := by omega
      have h2 : (f : Int) ≠ 2 := by omega
      have h3 : (f : Int) ≠ 3 := by omega
      have h4 : (f : Int) ≠ 4 := by omega
      have h6 : (f : Int) ≠ 6 := by omega
      have h7 : (f : Int) ≠ 7 := by omega
      have hf : (f : Int) = 5 := by omega
      refine ⟨ls.reverse, ?_, (by rw [fl_rev]; omega), (by rw [List.length_reverse]; omega)⟩
      refine (congrArg (Option.bind · _) (offT (clt_f h1))).trans ?_
      rw [Option.bind_some]
      refine (congrArg (Option.bind · _) (offT (ceq_f h2))).trans ?_
      rw [Option.bind_some]
      refine (congrArg (Option.bind · _) (offT (ceq_f h3))).trans ?_
      rw [Option.bind_some]
      refine (congrArg (Option.bind · _) (offT (ceq_f h4))).trans ?_
      rw [Option.bind_some]
      refine (congrArg (Option.bind · _) ((onn (cand_t (ceq_t hf) (ceq_t a0))).trans (?_ : _ = some (T.p (enLs ls.reverse))))).trans ?_
      · rw [snap_tZ, show (rs.map fun r => r.2) = ls from srs, Option.bind_some]
        unfold enLs
        rw [c_xrev1, Option.bind_some, List.map_reverse]
      · rw [Option.bind_some]
        refine (congrArg (Option.bind · _) (offT (ceq_f h6))).trans ?_
        rw [Option.bind_some]
        refine (congrArg (Option.bind · _) (offT (ceq_f h7))).trans ?_
        rw [Option.bind_some]
        rfl
    · have h1 : ¬ (f : Int) < 2 := by omega
      have h2 : (f : Int) ≠ 2 := by omega
      have h3 : (f : Int) ≠ 3 := by omega
      have h4 : (f : Int) ≠ 4 := by omega
      have h6 : (f : Int) ≠ 6 := by omega
      have h7 : (f : Int) ≠ 7 := by omega
      have hf : (f : Int) = 5 := by omega
      obtain ⟨b, hb⟩ : ∃ b, a = b + 1 := ⟨a - 1, by omega⟩
      have hbl : b < ls.length := by omega
      have rb : rs[b]'(by omega) = (true, ls[b]) := by simp [hrs]
      have lb : ls[b].length ≤ 100 := Nat.le_trans (fl_mem (List.getElem_mem hbl)) hfl
      obtain ⟨L, hL⟩ : ∃ L, L = sortI (ls[b] ++ ls[a]) := ⟨_, rfl⟩
      have lL : L.length = ls[b].length + ls[a].length := by rw [hL, sort_len, List.length_append]
      have g1 := fl_at ha
      have g2 : (ls.take b).flatten.length + ls[b].length = (ls.take a).flatten.length := by
        rw [hb, List.take_succ, List.getElem?_eq_getElem hbl, fl_app]; simp
      refine ⟨ls.take b ++ [L] ++ ls.drop (a + 1), ?_, (by rw [fl_app, fl_app]; simp only [List.flatten_cons, List.flatten_nil, List.append_nil]; omega), (by rw [List.length_append, List.length_append, List.length_take, List.length_drop, List.length_singleton]; omega)⟩
      refine (congrArg (Option.bind · _) (offT (clt_f h1))).trans ?_
      rw [Option.bind_some]
      refine (congrArg (Option.bind · _) (offT (ceq_f h2))).trans ?_
      rw [Option.bind_some]
      refine (congrArg (Option.bind · _) (offT (ceq_f h3))).trans ?_
      rw [Option.bind_some]
      refine (congrArg (Option.bind · _) (offT (ceq_f h4))).trans ?_
      rw [Option.bind_some]
      refine (congrArg (Option.bind · _) (offT (cand_t (ceq_t hf) (ceq_f a0)))).trans ?_
      refine (congrArg (fun z => Option.bind (Option.bind z _) _) ((onn (ceq_t hf)).trans (?_ : _ = some (T.p (enLs (ls.take b ++ [L] ++ ls.drop (a + 1))))))).trans ?_
      · rw [show xop subT (some (PyData.int (a : Int))) (some (.int 1)) = some (.int (b : Int)) from by rw [c_xop, c_sub, hb]; congr 2; omega, row, xrow_tZ (by omega) rb, addL (by omega), sorted_L, ← hL, Option.bind_some, snap_tZ, show (rs.map fun r => r.2) = ls from srs, Option.bind_some, toLs, show xlst [some (enL L)] = some (enLs [L]) from rfl, addLs (by rw [List.length_take, List.length_singleton]; omega), show xop addT (some (PyData.int (a : Int))) (some (.int 1)) = some (.int ((a + 1 : Nat) : Int)) from by rw [c_xop, c_add]; rfl, fromLs (by omega), addLs (by rw [List.length_append, List.length_take, List.length_drop, List.length_singleton]; omega), Option.bind_some]
      · rw [Option.bind_some, Option.bind_some]
        refine (congrArg (Option.bind · _) (offT (ceq_f h6))).trans ?_
        rw [Option.bind_some]
        refine (congrArg (Option.bind · _) (offT (ceq_f h7))).trans ?_
        rw [Option.bind_some]
        rfl
  · have sI : (rs.take a ++ [(false, ([] : List Int))] ++ rs.drop a).map (fun r => r.2) = ls.take a ++ [[]] ++ ls.drop a := by
      rw [List.map_append, List.map_append, List.map_take, List.map_drop, show (rs.map fun r => r.2) = ls from srs]; rfl
    have h1 : ¬ (f : Int) < 2 := by omega
    have h2 : (f : Int) ≠ 2 := by omega
    have h3 : (f : Int) ≠ 3 := by omega
    have h4 : (f : Int) ≠ 4 := by omega
    have h5 : (f : Int) ≠ 5 := by omega
    have h7 : (f : Int) ≠ 7 := by omega
    have hf : (f : Int) = 6 := by omega
    have g1 := fl_td ls a
    refine ⟨ls.take a ++ [[]] ++ ls.drop a, ?_, (by rw [fl_app, fl_app]; simp only [List.flatten_cons, List.flatten_nil, List.append_nil, List.length_nil]; omega), (by rw [List.length_append, List.length_append, List.length_take, List.length_drop, List.length_singleton]; omega)⟩
    refine (congrArg (Option.bind · _) (offT (clt_f h1))).trans ?_
    rw [Option.bind_some]
    refine (congrArg (Option.bind · _) (offT (ceq_f h2))).trans ?_
    rw [Option.bind_some]
    refine (congrArg (Option.bind · _) (offT (ceq_f h3))).trans ?_
    rw [Option.bind_some]
    refine (congrArg (Option.bind · _) (offT (ceq_f h4))).trans ?_
    rw [Option.bind_some]
    refine (congrArg (Option.bind · _) (offT (cand_f (ceq_f h5)))).trans ?_
    refine (congrArg (fun z => Option.bind (Option.bind z _) _) (offT (ceq_f h5))).trans ?_
    rw [Option.bind_some, Option.bind_some]
    refine (congrArg (Option.bind · _) ((onn (ceq_t hf)).trans (?_ : _ = some (tZ (rs.take a ++ [(false, ([] : List Int))] ++ rs.drop a))))).trans ?_
    · rw [show xlst [] = some (enL []) from rfl, Option.bind_some, Option.bind_some, Option.bind_some, ins_tZ (by omega) (by omega), Option.bind_some]
    · rw [Option.bind_some]
      refine (congrArg (Option.bind · _) (offT (ceq_f h7))).trans ?_
      rw [Option.bind_some]
      rw [snap_tZ, sI]; rfl
  · obtain ⟨L, hL⟩ : ∃ L, L = ls[a].reverse := ⟨_, rfl⟩
    have h1 : ¬ (f : Int) < 2 := by omega
    have h2 : (f : Int) ≠ 2 := by omega
    have h3 : (f : Int) ≠ 3 := by omega
    have h4 : (f : Int) ≠ 4 := by omega
    have h5 : (f : Int) ≠ 5 := by omega
    have h6 : (f : Int) ≠ 6 := by omega
    have hf : (f : Int) = 7 := by omega
    have f1 := fl_set ha L
    have lL : L.length = ls[a].length := by rw [hL]; simp
    have sL : (rs.set a (false, L)).map (fun r => r.2) = ls.set a L := by have := sn_set rs a false L; rw [srs] at this; exact this
    refine ⟨ls.set a L, ?_, (by omega), (by rw [List.length_set]; omega)⟩
    refine (congrArg (Option.bind · _) (offT (clt_f h1))).trans ?_
    rw [Option.bind_some]
    refine (congrArg (Option.bind · _) (offT (ceq_f h2))).trans ?_
    rw [Option.bind_some]
    refine (congrArg (Option.bind · _) (offT (ceq_f h3))).trans ?_
    rw [Option.bind_some]
    refine (congrArg (Option.bind · _) (offT (ceq_f h4))).trans ?_
    rw [Option.bind_some]
    refine (congrArg (Option.bind · _) (offT (cand_f (ceq_f h5)))).trans ?_
    refine (congrArg (fun z => Option.bind (Option.bind z _) _) (offT (ceq_f h5))).trans ?_
    rw [Option.bind_some, Option.bind_some]
    refine (congrArg (Option.bind · _) (offT (ceq_f h6))).trans ?_
    rw [Option.bind_some]
    refine (congrArg (Option.bind · _) ((onn (ceq_t hf)).trans (?_ : _ = some (tZ (rs.set a (false, L)))))).trans ?_
    · rw [row, c_xrev1, show (enI ls[a]).reverse = enI ls[a].reverse from by unfold enI; rw [List.map_reverse], ← hL, Option.bind_some, Option.bind_some, Option.bind_some, set_tZ har, Option.bind_some]
    · rw [Option.bind_some]
      rw [snap_tZ, sL]; rfl
  · refine ⟨ls, ?_, by omega, by omega⟩
    have h1 : ¬ (f : Int) < 2 := by omega
    have h2 : (f : Int) ≠ 2 := by omega
    have h3 : (f : Int) ≠ 3 := by omega
    have h4 : (f : Int) ≠ 4 := by omega
    have h5 : (f : Int) ≠ 5 := by omega
    have h6 : (f : Int) ≠ 6 := by omega
    have h7 : (f : Int) ≠ 7 := by omega
    refine (congrArg (Option.bind · _) (offT (clt_f h1))).trans ?_
    rw [Option.bind_some]
    refine (congrArg (Option.bind · _) (offT (ceq_f h2))).trans ?_
    rw [Option.bind_some]
    refine (congrArg (Option.bind · _) (offT (ceq_f h3))).trans ?_
    rw [Option.bind_some]
    refine (congrArg (Option.bind · _) (offT (ceq_f h4))).trans ?_
    rw [Option.bind_some]
    refine (congrArg (Option.bind · _) (offT (cand_f (ceq_f h5)))).trans ?_
    refine (congrArg (fun z => Option.bind (Option.bind z _) _) (offT (ceq_f h5))).trans ?_
    rw [Option.bind_some, Option.bind_some]
    refine (congrArg (Option.bind · _) (offT (ceq_f h6))).trans ?_
    rw [Option.bind_some]
    refine (congrArg (Option.bind · _) (offT (ceq_f h7))).trans ?_
    rw [Option.bind_some]
    rw [snap_tZ, show (rs.map fun r => r.2) = ls from srs]; rfl
end C
namespace B
open PySem PySem.Spec PyProof.Rows L2 M N
end B
namespace C
open PySem PySem.Spec PyProof.Rows L2 M N B
end C
namespace C
open PySem PySem.Spec PyProof.Rows L2 M N B

end C
namespace C
open PySem PySem.Spec PyProof.Rows L2 M N B

@[simp] theorem c_ltB {p q : Bool} : op2 ltBT (.bool p) (.bool q) = some (.bool (ltB p q)) := (rfl)
end C
namespace C
open PySem PySem.Spec PyProof.Rows L2 M N B

end C
namespace C
open PySem PySem.Spec PyProof.Rows L2 M N B

end C
namespace C
open PySem PySem.Spec PyProof.Rows L2 M N B
def wg (c : CF) (p : List Nat) (k : Nat) : Int := c (p.getD k 0) (p.getD k 0) - c (p.getD k 0) (p.getD ((k + 1) % p.length) 0)
def wst (c : CF) (p : List Nat) : Int := ((List.range p.length).map (wg c p)).sum
theorem gD {p : List Nat} {k : Nat} (h : k < p.length) : p.getD k 0 = p[k] := by simp [List.getD, h]
theorem gl {p : List Nat} (h : 0 < p.length) : p.getLast? = some (p[p.length - 1]'(by omega)) := by
  rw [List.getLast?_eq_getElem?, List.getElem?_eq_getElem (by omega)]
section
variable {n : Nat} {c : CF} {p : List Nat}
end
end C
namespace C
open PySem PySem.Spec PyProof.Rows L2 M N B
end C
namespace C
open PySem PySem.Spec PyProof.Rows L2 M N B
theorem len_I (ns : List Int) : (lenT [.p (.list (enI ns))]).bind T.pure? = some (.int ns.length) := by simp [lenT, T.kids, T.pure?, enI]
theorem pop_ok {ns : List Int} {j : Nat} (hj : j < ns.length) (hl : ns.length ≤ 1000) : ∃ d, popK (enI ns) (.int (j : Int)) = some (enI (ns.eraseIdx j), d) := by
  have h1 : j < (enI ns).length := by simpa [enI] using hj
  have pl : popL (enI ns) (j : Int) = some (enI (ns.eraseIdx j), (enI ns)[j]) := by
    unfold popL
    rw [ixN_ok h1, Option.bind_some, List.getElem?_eq_getElem h1, Option.map_some]
    congr 2
    unfold enI
    rw [map_erase]
  refine ⟨(enI ns)[j], ?_⟩
  unfold popK
  rw [show intD? (PyData.int (j : Int)) = some (j : Int) from rfl, Option.bind_some, if_pos ⟨by omega, by omega⟩, pl]
theorem rs1 {ns : List Int} {j : Nat} (hj : j < ns.length) (hl : ns.length ≤ 1000) (f : Int) :
    ∃ ns' : List Int, xif (xbool (xop M.eqT (some (.int f)) (some (.int 1)))) ((some (PyData.int (j : Int))).bind fun l => (popK (enI ns) l).bind fun xd => some xd.1) (some (enI ns)) = some (enI ns') ∧ j ≤ ns'.length ∧ ns'.length ≤ ns.length := by
  by_cases hf : f = 1
  · obtain ⟨d, e⟩ := pop_ok hj hl
    refine ⟨ns.eraseIdx j, ?_, ?_, List.length_eraseIdx_le ns j⟩
    · rw [c_xop, c_eqi, c_xbool, decide_eq_true hf, c_xif_t, Option.bind_some, e, Option.bind_some]
    · rw [List.length_eraseIdx_of_lt hj]; omega
  · refine ⟨ns, ?_, by omega, Nat.le_refl _⟩
    rw [c_xop, c_eqi, c_xbool, decide_eq_false hf, c_xif_f]
theorem rs2 {ns : List Int} {j n : Nat} (hj : j ≤ ns.length) (hl : ns.length ≤ 1000) (hn : 0 < n) {picks : List Int} (hp : 8 ≤ picks.length) (f : Int) :
    ∃ ns' : List Int, xif (xbool (xop M.eqT (some (.int f)) (some (.int 2)))) ((some (PyData.int (j : Int))).bind fun l => (xop modT (xop idxT (some (.list (enI picks))) (some (.int 6))) (some (.int (n : Int)))).bind fun y => (insL (enI ns) l y).bind fun numbers_7 => some numbers_7) (some (enI ns)) = some (enI ns') ∧ j ≤ ns'.length ∧ ns'.length ≤ ns.length + 1 := by
  by_cases hf : f = 2
  · obtain ⟨a, ha, ea⟩ := pk_mod (picks := picks) (k := 6) (z := n) (by omega) hn
    have hi := insL_of (enI ns) j (.int (a : Int)) (by omega) (by simpa [enI] using hl)
    refine ⟨ns.take j ++ [(a : Int)] ++ ns.drop j, ?_, by simp; omega, by simp; omega⟩
    rw [show xop M.eqT (some (.int f)) (some (.int 2)) = some (.bool (decide (f = 2))) from by rw [c_xop, c_eqi], c_xbool, decide_eq_true hf, c_xif_t, Option.bind_some, show (6 : Int) = ((6 : Nat) : Int) from rfl, ea, Option.bind_some, hi, Option.bind_some]
    rw [show enI (ns.take j ++ [(a : Int)] ++ ns.drop j) = (enI ns).take j ++ [.int (a : Int)] ++ (enI ns).drop j from by unfold enI; simp]
  · refine ⟨ns, ?_, hj, by omega⟩
    rw [show xop M.eqT (some (.int f)) (some (.int 2)) = some (.bool (decide (f = 2))) from by rw [c_xop, c_eqi], c_xbool, decide_eq_false hf, c_xif_f]
theorem rs3 {ns : List Int} (f : Int) :
    ∃ ns' : List Int, xif (xbool (xop M.eqT (some (.int f)) (some (.int 3)))) ((xrev (some (.list (enI ns)))).bind fun numbers_9 => some numbers_9) (some (.list (enI ns))) = some (.list (enI ns')) ∧ ns'.length = ns.length := by
  by_cases hf : f = 3
  · refine ⟨ns.reverse, ?_, by simp⟩
    rw [c_xop, c_eqi, c_xbool, decide_eq_true hf, c_xif_t, c_xrev1, Option.bind_some]
    unfold enI
    rw [List.map_reverse]
  · refine ⟨ns, ?_, rfl⟩
    rw [c_xop, c_eqi, c_xbool, decide_eq_false hf, c_xif_f]
theorem rs4 {ns : List Int} {j : Nat} (hj : j ≤ ns.length) (hl : ns.length ≤ 1000) (f : Int) :
    ∃ ns' : List Int, xif (xbool (xop M.eqT (some (.int f)) (some (.int 4)))) ((xop addT (xslice (some (.list (enI ns))) (xint (some (.int (j : Int)))) (some none)) (xslice (some (.list (enI ns))) (some none) (xint (some (.int (j : Int)))))).bind fun numbers_11 => some numbers_11) (some (.list (enI ns))) = some (.list (enI ns')) ∧ ns'.length = ns.length := by
  by_cases hf : f = 4
  · refine ⟨ns.drop j ++ ns.take j, ?_, by simp; omega⟩
    rw [show xop M.eqT (some (.int f)) (some (.int 4)) = some (.bool (decide (f = 4))) from by rw [c_xop, c_eqi], c_xbool, decide_eq_true hf, c_xif_t]
    simp only [c_xint, c_xslice]
    rw [slice_l_from (by simpa [enI] using hj), slice_l_to, c_xop, c_addl, if_pos (by simp [enI, LIM]; omega), Option.bind_some]
    unfold enI
    simp
  · refine ⟨ns, ?_, rfl⟩
    rw [show xop M.eqT (some (.int f)) (some (.int 4)) = some (.bool (decide (f = 4))) from by rw [c_xop, c_eqi], c_xbool, decide_eq_false hf, c_xif_f]
end C
namespace C
open PySem PySem.Spec PyProof.Rows L2 M N B
theorem rt0 {ns : List Int} {j : Nat} (hj : j < ns.length) {picks : List Int} (hl : 6 ≤ picks.length) (f : Int) :
    ∃ ns' : List Int, xif (xbool (xop M.eqT (some (.int f)) (some (.int 0)))) ((some (PyData.int (j : Int))).bind fun l => (xop modT (xop idxT (some (enL picks)) (some (.int 3))) (some (.int 100))).bind fun y => (setL (enI ns) l y).bind fun things_3 => some things_3) (some (enI ns)) = some (enI ns') ∧ ns'.length = ns.length := by
  by_cases hf : f = 0
  · obtain ⟨y, hy, ey⟩ := pk_mod (picks := picks) (k := 3) (z := 100) (by omega) (by omega)
    have ey : xop modT (xop idxT (some (enL picks)) (some (.int 3))) (some (.int 100)) = some (.int (y : Int)) := ey
    have st : setL (enI ns) (.int (j : Int)) (.int (y : Int)) = some (enI (ns.set j (y : Int))) := by
      unfold setL
      rw [show intD? (PyData.int (j : Int)) = some (j : Int) from rfl, Option.bind_some, ixN_ok (by simpa [enI] using hj), Option.map_some]
      unfold enI
      rw [List.map_set]
    refine ⟨ns.set j (y : Int), ?_, by simp⟩
    rw [onn (ceq_t hf), Option.bind_some, ey, Option.bind_some, st, Option.bind_some]
  · exact ⟨ns, offT (ceq_f hf), rfl⟩
theorem rt1 {ns : List Int} {j : Nat} (hj : j < ns.length) (hl : ns.length ≤ 1000) (f : Int) :
    ∃ ns' : List Int, xif (xbool (xop M.eqT (some (.int f)) (some (.int 1)))) ((some (PyData.int (j : Int))).bind fun l => (popK (enI ns) l).bind fun xd => some xd.1) (some (enI ns)) = some (enI ns') ∧ j ≤ ns'.length ∧ ns'.length ≤ ns.length ∧ (f ≠ 1 → ns'.length = ns.length) := by
  by_cases hf : f = 1
  · obtain ⟨d, e⟩ := pop_ok hj hl
    refine ⟨ns.eraseIdx j, ?_, ?_, List.length_eraseIdx_le ns j, fun h => absurd hf h⟩
    · rw [onn (ceq_t hf), Option.bind_some, e, Option.bind_some]
    · rw [List.length_eraseIdx_of_lt hj]; omega
  · exact ⟨ns, offT (ceq_f hf), by omega, Nat.le_refl _, fun _ => rfl⟩
theorem rt2 {ns : List Int} {j : Nat} (hj : j ≤ ns.length) (hl : ns.length ≤ 1000) {picks : List Int} (hp : 6 ≤ picks.length) (f : Int) (hpos : f = 2 → 0 < ns.length) :
    ∃ ns' : List Int, xif (xbool (xop M.eqT (some (.int f)) (some (.int 2)))) ((some (PyData.int (j : Int))).bind fun l => (xop idxT (some (PyData.list (enI ns))) (xop modT (xop idxT (some (enL picks)) (some (.int 3))) (xf1 lenT (some (PyData.list (enI ns)))))).bind fun y => (insL (enI ns) l y).bind fun things_7 => some things_7) (some (enI ns)) = some (enI ns') ∧ j ≤ ns'.length ∧ ns'.length ≤ ns.length + 1 := by
  by_cases hf : f = 2
  · obtain ⟨a, ha, ea⟩ := pk_mod (picks := picks) (k := 3) (z := ns.length) (by omega) (hpos hf)
    have ea : xop modT (xop idxT (some (enL picks)) (some (.int 3))) (some (.int (ns.length : Int))) = some (.int (a : Int)) := ea
    have hi := insL_of (enI ns) j (.int (ns.getD a 0)) (by omega) (by simpa [enI] using hl)
    refine ⟨ns.take j ++ [ns.getD a 0] ++ ns.drop j, ?_, by simp; omega, by simp; omega⟩
    rw [onn (ceq_t hf), Option.bind_some, c_xf1, len_I, ea, c_xop, ix_getD ha, Option.bind_some, hi, Option.bind_some]
    rw [show enI (ns.take j ++ [ns.getD a 0] ++ ns.drop j) = (enI ns).take j ++ [.int (ns.getD a 0)] ++ (enI ns).drop j from by unfold enI; simp]
  · exact ⟨ns, offT (ceq_f hf), hj, by omega⟩
theorem p_round_spoilt3 {ns : List Int} (h1 : 1 ≤ ns.length) (hl : ns.length ≤ 90) {picks : List Int} (hp : 6 ≤ picks.length) : ∃ ns' : List Int, P.law_round_spoilt_3 (enL ns) (enL picks) = some (enL ns') ∧ ns'.length ≤ ns.length + 1 := by
  obtain ⟨j, hj, ej⟩ := pk_mod (picks := picks) (k := 1) (z := ns.length) (by omega) (by omega)
  have ej : xop modT (xop idxT (some (enL picks)) (some (.int 1))) (some (.int (ns.length : Int))) = some (.int (j : Int)) := ej
  obtain ⟨f, hf, ef⟩ := pk_mod (picks := picks) (k := 2) (z := 7) (by omega) (by omega)
  have ef : xop modT (xop idxT (some (enL picks)) (some (.int 2))) (some (.int 7)) = some (.int (f : Int)) := ef
  obtain ⟨a0, e0, l0⟩ := rt0 (ns := ns) hj hp f
  obtain ⟨a1, e1, j1, l1, q1⟩ := rt1 (ns := a0) (j := j) (by omega) (by omega) f
  obtain ⟨a2, e2, j2, l2⟩ := rt2 (ns := a1) j1 (by omega) hp f (fun e => by have := q1 (by omega); omega)
  obtain ⟨a3, e3, l3⟩ := rs3 (ns := a2) f
  obtain ⟨a4, e4, l4⟩ := rs4 (ns := a3) (j := j) (by omega) (by omega) f
  refine ⟨a4, ?_, by omega⟩
  unfold P.law_round_spoilt_3
  rw [c_iseq1, Option.bind_some, c_xf1, len_I, ej, Option.bind_some, ef, Option.bind_some]
  refine (congrArg (Option.bind · _) e0).trans ?_
  rw [Option.bind_some]
  refine (congrArg (Option.bind · _) e1).trans ?_
  rw [Option.bind_some]
  refine (congrArg (Option.bind · _) e2).trans ?_
  rw [Option.bind_some]
  refine (congrArg (Option.bind · _) e3).trans ?_
  rw [Option.bind_some]
  refine (congrArg (Option.bind · _) e4).trans ?_
  rw [Option.bind_some]
end C
namespace C
open PySem PySem.Spec PyProof.Rows L2 M N B

theorem _root_.B.GoodCh.perm {b c : Buy} (g : GoodCh b) (h1 : c.1.Perm b.1) (h2 : c.2.Perm b.2) : GoodCh c :=
  ⟨by rw [h1.length_eq]; exact g.o1, by rw [h1.length_eq]; exact g.o12, by rw [h2.length_eq]; exact g.t1, (h1.nodup_iff).mpr g.on, (h2.nodup_iff).mpr g.tn, fun x hx => h1.mem_iff.mpr (g.sub x (h2.mem_iff.mp hx)), fun x hx => g.rng x (h1.mem_iff.mp hx)⟩
end C
namespace C
open PySem PySem.Spec PyProof.Rows L2 M N B

end C
namespace C
open PySem PySem.Spec PyProof.Rows L2 M N B

end C
namespace C
open PySem PySem.Spec PyProof.Rows L2 M N B
theorem p_a_log60 (ns : List Int) (at' most : Int) (h0 : 0 ≤ at' := by decide) (hm : 1 ≤ most := by decide) (hm2 : most ≤ 100 := by decide) : ∃ lg : List Buy, P.law_a_log ns (.int at') (.int most) = some (enBk lg) ∧ LogOk lg ∧ 1 ≤ lg.length ∧ (lg.length : Int) ≤ most ∧ (plc lg).length ≤ 60 := by
  obtain ⟨lg, th, h1, h2, h3, h4, h5⟩ := a_log2 ns at' most h0 hm hm2
  have ok : LogOk lg := ⟨fun b hb => (h5 b hb).1, th, by have := h4.l2; omega, fun b hb => (h5 b hb).2⟩
  refine ⟨lg, qc_of h1, ok, h2, h3, ?_⟩
  have := nodup_le (l := natI (plc lg)) ((natI_sorted (plc_sorted lg)).imp fun h => by omega) (m := th) fun x hx => by
    obtain ⟨b, hb, hx⟩ := (mem_plcI ok).mp hx
    exact (h5 b hb).2 x hx
  have := h4.l2
  simp only [natI, List.length_map] at *
  omega
theorem more_m (ys : List Int) : ∀ k : Nat, ∃ zs : List Int, mapP (fun d => un2 d fun k pick => xop addT (some pick) (some k)) (enumD k (enI ys)) = some (enI zs) ∧ zs.length = ys.length := by
  induction ys with
  | nil => intro k; exact ⟨[], rfl, rfl⟩
  | cons y r ih =>
    intro k
    obtain ⟨zs, e, l⟩ := ih (k + 1)
    refine ⟨(y + (k : Int)) :: zs, ?_, by simp [l]⟩
    show mapP _ (.tuple [.int (k : Nat), .int y] :: enumD (k + 1) (enI r)) = _
    rw [mapP, e, c_un2, c_xop, c_add]
    rfl
theorem p_more {picks : List Int} (h : picks.length = 6) : ∃ zs : List Int, xmap (fun d => un2 d fun k pick => xop addT (some pick) (some k)) (ienum (xop mulT (some (enL picks)) (some (.int 10)))) = some (enL zs) ∧ zs.length = 60 := by
  have hr : rep62 (enI picks).length (10 : Int) := ⟨by omega, by omega, by simp [enI, h, LIM]⟩
  have e1 : xop mulT (some (enL picks)) (some (.int 10)) = some (enL (List.replicate 10 picks).flatten) := by
    rw [c_xop, op2, ev_mull, if_pos hr]
    simp [enI, T.pure?, List.map_flatten]
  obtain ⟨zs, e2, l2⟩ := more_m (List.replicate 10 picks).flatten 0
  have l3 : zs.length = 60 := by rw [l2]; simp [h]
  refine ⟨zs, ?_, l3⟩
  rw [e1, c_ienum]
  unfold xmap
  rw [Option.bind_some, e2, lim, Option.bind_some, if_pos (by simp [enI, LIM]; omega)]
  rfl
theorem ones_flat (ys : List Int) : (ys.map fun y => [y]).flatten = ys := by
  induction ys with
  | nil => rfl
  | cons a r ih => simp [ih]
theorem pln_three (ls : List (List Int)) (xs : List Int) : Pln 3 (.list [enLs ls, enL xs]) := by
  intro d hd
  simp only [List.mem_cons, List.not_mem_nil, or_false] at hd
  rcases hd with rfl | rfl
  · intro e he
    obtain ⟨l, _, rfl⟩ := List.mem_map.mp he
    exact pln_L l
  · exact (pln_L xs).mono (by decide)
theorem list_Ls {ls : List (List Int)} (h : ls.length ≤ 1000) : xmap (fun level => xf1 listT (some level)) (iseq (some (enLs ls))) = some (enLs ls) := by
  rw [show iseq (some (enLs ls)) = some (ls.map enL) from rfl, xmap_of enL enL ls (lim_of (by omega)) fun l _ => by rw [c_xf1, list_of (enL l) ⟨_, rfl⟩]]
  rfl
/-- what stands after the levels and the things are chosen -/
noncomputable def k25R (log picks lv th : D) : Option (Ct Unit D) := (ap2 P.law_levels_spoilt (some lv) (some picks)).bind fun levels_3 => (ap2 P.law_round_spoilt_3 (some th) (some picks)).bind fun things_3 => (xlst [xmap (fun level => xf1 listT (some level)) (iseq (some levels_3)), xf1 listT (some things_3)]).bind fun handed => (ap2 P.explains_log (xf1 listT (some log)) (xop idxT (some handed) (some (.int 0)))).bind fun found => xif (xor' (xnot (xbool (xisi "bool" (some found)))) (xbool (xop M.neT (some found) (ap2 P.law_explains_2 (some log) (some levels_3))))) ((some (.bool false)).map .rt) ((ap2 P.bars_log (xf1 listT (some log)) (xop idxT (some handed) (some (.int 1)))).bind fun found_2 => xif (xor' (xnot (xbool (xisi "bool" (some found_2)))) (xbool (xop M.neT (some found_2) (ap2 P.law_bars_2 (some log) (some things_3))))) ((some (.bool false)).map .rt) (xif (xbool (xop M.neT (some handed) (xlst [some levels_3, some things_3]))) ((some (.bool false)).map .rt) (some (.nx (())))))
theorem k25_rest {lg : List Buy} (h : LogOk lg) (hl : lg.length ≤ 1000) {picks : List Int} (hp : 6 ≤ picks.length) {ls : List (List Int)} (hne : ∀ l ∈ ls, l ≠ []) (h1 : 1 ≤ ls.length) (h64 : ls.length ≤ 64) (hfl : ls.flatten.length ≤ 62) {xs : List Int} (hx1 : 1 ≤ xs.length) (hx2 : xs.length ≤ 90) : k25R (enBk lg) (enL picks) (enLs ls) (enL xs) = some (.nx ()) := by
  obtain ⟨ls', e1, f1, g1⟩ := p_levels_spoilt hne h1 (by omega) (by omega) hp
  obtain ⟨xs', e2, f2⟩ := p_round_spoilt3 hx1 hx2 hp
  obtain ⟨b1, a1, a2⟩ := explains_both (ls := ls') h (by omega) (by omega)
  obtain ⟨b2, a3, a4⟩ := bars_both (xs := xs') h hl (by omega)
  have lsb := list_of (enBk lg) ⟨_, rfl⟩
  have lx := list_of (enL xs') ⟨_, rfl⟩
  have i0 : op2 idxT (.list [enLs ls', enL xs']) (.int 0) = some (enLs ls') := rfl
  have i1 : op2 idxT (.list [enLs ls', enL xs']) (.int 1) = some (enL xs') := rfl
  have nb : ∀ b : Bool, op2 M.neT (.bool b) (.bool b) = some (.bool false) := fun b => by cases b <;> rfl
  have isb : ∀ b : Bool, xisi "bool" (some (.bool b)) = some (.bool true) := fun b => rfl
  have nh := c_ne_self (pln_three ls' xs')
  unfold k25R
  rw [c_ap2, e1, Option.bind_some, c_ap2, e2, Option.bind_some, list_Ls (by omega), c_xf1, lx]
  simp only [c_xlst, c_xseq1, c_xseq0, Option.map_some, Option.bind_some, c_xf1, lsb, c_xop, i0, i1, c_ap2, a1, a2, a3, a4, isb, c_xbool, c_xnot, Bool.not_true, c_xor, c_xif_f, nb, nh]
theorem k25_step {lg : List Buy} (h : LogOk lg) (hl1 : 1 ≤ lg.length) (hl : lg.length ≤ 1000) (h60 : (plc lg).length ≤ 60) {word told : D} (ht : ToldL lg (.tuple [word, told])) (cell : Int) : P.k25_law_L1 (enBk lg) word told (.int cell) = some (.nx ()) := by
  obtain ⟨picks, hpk, pl, pb⟩ := p_draws cell 6 1000
  have pl : picks.length = 6 := pl
  obtain ⟨more, em, lm⟩ := p_more pl
  have lp : (natI (plc lg)).length = (plc lg).length := by simp [natI]
  obtain ⟨x0, hx0⟩ : ∃ x, x ∈ natI (plc lg) := by
    have hb : lg[0] ∈ lg := List.getElem_mem hl1
    have g := h.ch _ hb
    have g1 : 0 < lg[0].1.length := g.o1
    exact ⟨lg[0].1[0], (mem_plcI h).mpr ⟨_, hb, List.getElem_mem g1⟩⟩
  have lp1 : 1 ≤ (natI (plc lg)).length := List.length_pos_iff.mpr fun e => by rw [e] at hx0; simp at hx0
  obtain ⟨ys, ey, py⟩ := mixed (natI (plc lg)) more (by omega) (by omega)
  have ey : P.law_mixed (enL (natI (plc lg))) (enL more) = some (enL ys) := qc_of ey
  have ly : ys.length = (plc lg).length := by rw [py.length_eq, lp]
  have elv : xmap (fun one => xlst [some one]) (some (enI ys)) = some (enLs (ys.map fun y => [y])) := by
    have := xmap_of (h := fun one => xlst [some one]) PyData.int (fun y => enL [y]) ys (lim_of (by omega)) fun y _ => rfl
    unfold enLs
    rw [List.map_map]
    exact this
  obtain ⟨m, hm, em2⟩ := pk_mod (picks := picks) (k := 5) (z := 4) (by omega) (by omega)
  have em2 : xop modT (xop idxT (some (enL picks)) (some (.int 5))) (some (.int 4)) = some (.int (m : Int)) := em2
  have eth : xslice (some (enL (natI (plc lg)))) (some none) (xint (xop addT (some (.int 2)) (some (.int (m : Int))))) = some (enL ((natI (plc lg)).take (2 + m))) := by
    rw [c_xop, c_add, show (2 : Int) + (m : Int) = ((2 + m : Nat) : Int) from by omega, toL]
  obtain ⟨th, hth⟩ : ∃ th, th = (natI (plc lg)).take (2 + m) := ⟨_, rfl⟩
  have lth1 : 1 ≤ th.length := by rw [hth, List.length_take]; omega
  have lth2 : th.length ≤ 90 := by rw [hth, List.length_take]; omega
  rw [← hth] at eth
  have w1 : op2 M.eqT (.str "levels") (.str "levels") = some (.bool true) := by rw [eqs (by decide +kernel) (by decide +kernel)]; rfl
  have w2 : op2 M.eqT (.str "round") (.str "levels") = some (.bool false) := by rw [eqs (by decide +kernel) (by decide +kernel)]; rfl
  have lsy : (ys.map fun y => [y]).length ≤ 64 := by rw [List.length_map]; omega
  unfold P.k25_law_L1
  rw [c_ap3, hpk, Option.bind_some, em, Option.bind_some, show ap1 P.law_offered (some (enBk lg)) = some (enL (natI (plc lg))) from p_offered h, c_ap2, ey, c_iseq1, elv, Option.bind_some, em2, eth, Option.bind_some]
  cases ht with
  | levels ls r lv =>
    rw [c_xop, w1, c_xbool, c_xif_t, Option.bind_some, Option.bind_some]
    have nd := nodup_le (lv_nodup lv) (m := natI (plc lg)) fun x hx => (mem_plcI h).mpr ((lv_mem lv).mp hx)
    have fw := lv_few h lv
    have g := h.ch _ (List.getElem_mem hl1)
    have g1 : 0 < lg[0].1.length := g.o1
    have hr := lv.all _ (List.getElem_mem hl1) _ (List.getElem_mem g1)
    exact k25_rest h hl (by omega) (fun l hl' => by
      obtain ⟨i, hi, rfl⟩ := List.mem_iff_getElem.mp hl'
      exact (lv.at' i _ (List.getElem?_eq_getElem hi)).1) (by omega) (by omega) (by omega) lth1 lth2
  | round xs rd =>
    rw [c_xop, w2, c_xbool, c_xif_f, Option.bind_some, Option.bind_some]
    have fw := rnd_few h rd
    have l2 := rd.len
    exact k25_rest h hl (by omega) (fun l hl' => by
      obtain ⟨y, _, rfl⟩ := List.mem_map.mp hl'
      simp) (by rw [List.length_map]; omega) lsy (by rw [ones_flat]; omega) (by omega) (by omega)
theorem k25_true (ns : List Int) : Q.k25_law [.sc ns] = some (.p (.bool true)) := by
  refine run_law (R.k25_law ns) ?_
  obtain ⟨lg, hlg, h, l1, l2, l60⟩ := p_a_log60 ns 0 10
  obtain ⟨d, ed, ht⟩ := told_by_log h l1
  obtain ⟨word, told, rfl⟩ : ∃ word told, d = .tuple [word, told] := by
    cases ht with
    | levels ls r _ => exact ⟨_, _, rfl⟩
    | round xs _ => exact ⟨_, _, rfl⟩
  obtain ⟨c2, hc2⟩ := p_cell ns 2 (by decide)
  obtain ⟨cs, hcs⟩ : ∃ cs, cs = cutL (ns.map PyData.int) (some 3) (some 14) := ⟨_, rfl⟩
  have cl : cs.length ≤ 14 := by
    rw [hcs]
    unfold cutL
    rw [List.length_take, List.length_drop]
    have : HT.sIx (ns.map PyData.int).length (ns.map PyData.int).length (some 14) ≤ 14 := by
      simp [HT.sIx]
      omega
    omega
  have ci : ∀ d ∈ cs, ∃ x : Int, d = .int x := fun d hd => by
    rw [hcs] at hd
    unfold cutL at hd
    obtain ⟨x, _, rfl⟩ := List.mem_map.mp (List.mem_of_mem_drop (List.mem_of_mem_take hd))
    exact ⟨x, rfl⟩
  have xs : xscut ns (some (some 3)) (some (some 14)) = some (.list cs) := by rw [hcs]; rfl
  have ad : op2 addT (.list [.int c2]) (.list cs) = some (.list ([.int c2] ++ cs)) := by
    rw [c_addl, if_pos (by simp [LIM]; omega)]
  have lp := foldC_run (step := fun (s : Unit) d => P.k25_law_L1 (enBk lg) word told d) (fun _ _ => True) (fun _ => False) ([.int c2] ++ cs) () 0 trivial (fun i d s hd _ => by
    obtain ⟨x, rfl⟩ : ∃ x : Int, d = .int x := by
      rcases List.mem_append.mp (List.mem_of_getElem? hd) with z | z
      · simp only [List.mem_cons, List.not_mem_nil, or_false] at z
        exact ⟨_, z⟩
      · exact ci d z
    exact .inl ⟨(), k25_step h l1 (by omega) l60 ht x, trivial⟩)
  rcases lp with ⟨s, k1, _⟩ | ⟨r, _, z⟩
  · unfold P.k25_law
    simp only [c_ap3, hlg, Option.bind_some, c_ap1, ed, c_un2, c_ap2, hc2, c_xlst, c_xseq1, c_xseq0, Option.map_some, c_xint, xs, c_xop, ad, c_iseq1, k1, c_aft1]
  · exact z.elim
end C
namespace W
open PySem PySem.Spec PyProof.Rows L2 M
def topS (i : Nat) : Stmt := PySem.Challenge.pw_onewish_k25_papers_of_logs.main.body.getD i (.Pass ⟨0, 0, 0, 0⟩)
abbrev s_way_between : Stmt := topS 1
abbrev s_steps_of : Stmt := topS 3
abbrev s_things_in : Stmt := topS 5
abbrev s_explains_log : Stmt := topS 6
abbrev s_log_ways : Stmt := topS 7
abbrev s_bars_log : Stmt := topS 8
abbrev s_reached_from : Stmt := topS 9
abbrev s_told_by_log : Stmt := topS 10
abbrev s__law_cell_at : Stmt := topS 12
abbrev s__law_draws : Stmt := topS 13
abbrev s__law_mixed : Stmt := topS 14
abbrev s__law_a_log : Stmt := topS 15
abbrev s__law_offered : Stmt := topS 16
abbrev s__law_explains : Stmt := topS 17
abbrev s__law_bars : Stmt := topS 18
abbrev s__law_levels_spoilt : Stmt := topS 19
abbrev s__law_round_spoilt : Stmt := topS 20
abbrev s_law : Stmt := topS 21
abbrev N_way_between : List Str := ["ways", "one", "other", "behind", "waiting", "here", "there", "told"]
theorem sc_way_between : FnScope N_way_between ["ways", "one", "other"] (defScope s_way_between) := ⟨rfl, rfl, rfl, by decide +kernel, rfl, by decide +kernel, by decide +kernel⟩
abbrev N_steps_of : List Str := ["numbers", "k"]
theorem sc_steps_of : FnScope N_steps_of ["numbers"] (defScope s_steps_of) := ⟨rfl, rfl, rfl, by decide +kernel, rfl, by decide +kernel, by decide +kernel⟩
abbrev N_things_in : List Str := ["log", "there", "offers", "taken", "one"]
theorem sc_things_in : FnScope N_things_in ["log"] (defScope s_things_in) := ⟨rfl, rfl, rfl, by decide +kernel, rfl, by decide +kernel, by decide +kernel⟩
abbrev N_explains_log : List Str := ["log", "levels", "things", "level", "offers", "taken", "first", "one"]
theorem sc_explains_log : FnScope N_explains_log ["log", "levels"] (defScope s_explains_log) := ⟨rfl, rfl, rfl, by decide +kernel, rfl, by decide +kernel, by decide +kernel⟩
abbrev N_log_ways : List Str := ["log", "things", "steps", "strict", "one", "offers", "taken", "other"]
theorem sc_log_ways : FnScope N_log_ways ["log", "things"] (defScope s_log_ways) := ⟨rfl, rfl, rfl, by decide +kernel, rfl, by decide +kernel, by decide +kernel⟩
abbrev N_bars_log : List Str := ["log", "things", "known", "steps", "strict", "pairs", "one", "other"]
theorem sc_bars_log : FnScope N_bars_log ["log", "things"] (defScope s_bars_log) := ⟨rfl, rfl, rfl, by decide +kernel, rfl, by decide +kernel, by decide +kernel⟩
abbrev N_reached_from : List Str := ["steps", "one", "there", "waiting", "here", "other"]
theorem sc_reached_from : FnScope N_reached_from ["steps", "one"] (defScope s_reached_from) := ⟨rfl, rfl, rfl, by decide +kernel, rfl, by decide +kernel, by decide +kernel⟩
abbrev N_told_by_log : List Str := ["log", "things", "steps", "strict", "many", "one", "other", "way", "reach", "left", "levels", "first", "k", "j"]
theorem sc_told_by_log : FnScope N_told_by_log ["log"] (defScope s_told_by_log) := ⟨rfl, rfl, rfl, by decide +kernel, rfl, by decide +kernel, by decide +kernel⟩
abbrev N__law_cell_at : List Str := ["script", "k"]
theorem sc__law_cell_at : FnScope N__law_cell_at ["script", "k"] (defScope s__law_cell_at) := ⟨rfl, rfl, rfl, by decide +kernel, rfl, by decide +kernel, by decide +kernel⟩
abbrev N__law_draws : List Str := ["cell", "many", "base", "found", "rest", "stirred", "k"]
theorem sc__law_draws : FnScope N__law_draws ["cell", "many", "base"] (defScope s__law_draws) := ⟨rfl, rfl, rfl, by decide +kernel, rfl, by decide +kernel, by decide +kernel⟩
abbrev N__law_mixed : List Str := ["row", "picks", "found", "k", "one"]
theorem sc__law_mixed : FnScope N__law_mixed ["row", "picks"] (defScope s__law_mixed) := ⟨rfl, rfl, rfl, by decide +kernel, rfl, by decide +kernel, by decide +kernel⟩
abbrev N__law_a_log : List Str := ["script", "at", "most", "heads", "many", "things", "more", "pick", "one", "log", "k", "picks", "first", "some", "offers", "by", "levels", "best", "taken", "j"]
theorem sc__law_a_log : FnScope N__law_a_log ["script", "at", "most"] (defScope s__law_a_log) := ⟨rfl, rfl, rfl, by decide +kernel, rfl, by decide +kernel, by decide +kernel⟩
abbrev N__law_offered : List Str := ["log", "found", "offers", "taken", "one"]
theorem sc__law_offered : FnScope N__law_offered ["log"] (defScope s__law_offered) := ⟨rfl, rfl, rfl, by decide +kernel, rfl, by decide +kernel, by decide +kernel⟩
abbrev N__law_explains : List Str := ["log", "levels", "things", "level", "offers", "taken", "places", "one", "first", "best", "k", "place"]
theorem sc__law_explains : FnScope N__law_explains ["log", "levels"] (defScope s__law_explains) := ⟨rfl, rfl, rfl, by decide +kernel, rfl, by decide +kernel, by decide +kernel⟩
abbrev N__law_bars : List Str := ["log", "things", "known", "strict", "k", "one", "other", "some", "offers", "taken"]
theorem sc__law_bars : FnScope N__law_bars ["log", "things"] (defScope s__law_bars) := ⟨rfl, rfl, rfl, by decide +kernel, rfl, by decide +kernel, by decide +kernel⟩
abbrev N__law_levels_spoilt : List Str := ["levels", "picks", "at", "k", "form", "one", "other", "parts", "both", "level"]
theorem sc__law_levels_spoilt : FnScope N__law_levels_spoilt ["levels", "picks"] (defScope s__law_levels_spoilt) := ⟨rfl, rfl, rfl, by decide +kernel, rfl, by decide +kernel, by decide +kernel⟩
abbrev N__law_round_spoilt : List Str := ["things", "picks", "k", "form"]
theorem sc__law_round_spoilt : FnScope N__law_round_spoilt ["things", "picks"] (defScope s__law_round_spoilt) := ⟨rfl, rfl, rfl, by decide +kernel, rfl, by decide +kernel, by decide +kernel⟩
abbrev N_law : List Str := ["script", "log", "word", "told", "cell", "picks", "more", "levels", "things", "handed", "found", "k", "pick", "one", "level"]
theorem sc_law : FnScope N_law ["script"] (defScope s_law) := ⟨rfl, rfl, rfl, by decide +kernel, rfl, by decide +kernel, by decide +kernel⟩
structure Tx (K : PySem.W.Frag) (mg : Str → Option Value) where
  a_way_between : Addr
  d_way_between : FuncData
  a_steps_of : Addr
  d_steps_of : FuncData
  a_things_in : Addr
  d_things_in : FuncData
  a_explains_log : Addr
  d_explains_log : FuncData
  a_log_ways : Addr
  d_log_ways : FuncData
  a_bars_log : Addr
  d_bars_log : FuncData
  a_reached_from : Addr
  d_reached_from : FuncData
  a_told_by_log : Addr
  d_told_by_log : FuncData
  a__law_cell_at : Addr
  d__law_cell_at : FuncData
  a__law_draws : Addr
  d__law_draws : FuncData
  a__law_mixed : Addr
  d__law_mixed : FuncData
  a__law_a_log : Addr
  d__law_a_log : FuncData
  a__law_offered : Addr
  d__law_offered : FuncData
  a__law_explains : Addr
  d__law_explains : FuncData
  a__law_bars : Addr
  d__law_bars : FuncData
  a__law_levels_spoilt : Addr
  d__law_levels_spoilt : FuncData
  a__law_round_spoilt : Addr
  d__law_round_spoilt : FuncData
  a_law : Addr
  d_law : FuncData
  F_way_between : Fun K "way_between" "way_between" s_way_between a_way_between d_way_between
  b_way_between : Binds K d_way_between ["ways", "one", "other"] []
  g_way_between : mg "way_between" = some (.ref a_way_between)
  F_steps_of : Fun K "steps_of" "steps_of" s_steps_of a_steps_of d_steps_of
  b_steps_of : Binds K d_steps_of ["numbers"] []
  g_steps_of : mg "steps_of" = some (.ref a_steps_of)
  F_things_in : Fun K "things_in" "things_in" s_things_in a_things_in d_things_in
  b_things_in : Binds K d_things_in ["log"] []
  g_things_in : mg "things_in" = some (.ref a_things_in)
  F_explains_log : Fun K "explains_log" "explains_log" s_explains_log a_explains_log d_explains_log
  b_explains_log : Binds K d_explains_log ["log", "levels"] []
  g_explains_log : mg "explains_log" = some (.ref a_explains_log)
  F_log_ways : Fun K "log_ways" "log_ways" s_log_ways a_log_ways d_log_ways
  b_log_ways : Binds K d_log_ways ["log", "things"] []
  g_log_ways : mg "log_ways" = some (.ref a_log_ways)
  F_bars_log : Fun K "bars_log" "bars_log" s_bars_log a_bars_log d_bars_log
  b_bars_log : Binds K d_bars_log ["log", "things"] []
  g_bars_log : mg "bars_log" = some (.ref a_bars_log)
  F_reached_from : Fun K "reached_from" "reached_from" s_reached_from a_reached_from d_reached_from
  b_reached_from : Binds K d_reached_from ["steps", "one"] []
  g_reached_from : mg "reached_from" = some (.ref a_reached_from)
  F_told_by_log : Fun K "told_by_log" "told_by_log" s_told_by_log a_told_by_log d_told_by_log
  b_told_by_log : Binds K d_told_by_log ["log"] []
  g_told_by_log : mg "told_by_log" = some (.ref a_told_by_log)
  F__law_cell_at : Fun K "_law_cell_at" "_law_cell_at" s__law_cell_at a__law_cell_at d__law_cell_at
  b__law_cell_at : Binds K d__law_cell_at ["script", "k"] []
  g__law_cell_at : mg "_law_cell_at" = some (.ref a__law_cell_at)
  F__law_draws : Fun K "_law_draws" "_law_draws" s__law_draws a__law_draws d__law_draws
  b__law_draws : Binds K d__law_draws ["cell", "many", "base"] []
  g__law_draws : mg "_law_draws" = some (.ref a__law_draws)
  F__law_mixed : Fun K "_law_mixed" "_law_mixed" s__law_mixed a__law_mixed d__law_mixed
  b__law_mixed : Binds K d__law_mixed ["row", "picks"] []
  g__law_mixed : mg "_law_mixed" = some (.ref a__law_mixed)
  F__law_a_log : Fun K "_law_a_log" "_law_a_log" s__law_a_log a__law_a_log d__law_a_log
  b__law_a_log : Binds K d__law_a_log ["script", "at", "most"] []
  g__law_a_log : mg "_law_a_log" = some (.ref a__law_a_log)
  F__law_offered : Fun K "_law_offered" "_law_offered" s__law_offered a__law_offered d__law_offered
  b__law_offered : Binds K d__law_offered ["log"] []
  g__law_offered : mg "_law_offered" = some (.ref a__law_offered)
  F__law_explains : Fun K "_law_explains" "_law_explains" s__law_explains a__law_explains d__law_explains
  b__law_explains : Binds K d__law_explains ["log", "levels"] []
  g__law_explains : mg "_law_explains" = some (.ref a__law_explains)
  F__law_bars : Fun K "_law_bars" "_law_bars" s__law_bars a__law_bars d__law_bars
  b__law_bars : Binds K d__law_bars ["log", "things"] []
  g__law_bars : mg "_law_bars" = some (.ref a__law_bars)
  F__law_levels_spoilt : Fun K "_law_levels_spoilt" "_law_levels_spoilt" s__law_levels_spoilt a__law_levels_spoilt d__law_levels_spoilt
  b__law_levels_spoilt : Binds K d__law_levels_spoilt ["levels", "picks"] []
  g__law_levels_spoilt : mg "_law_levels_spoilt" = some (.ref a__law_levels_spoilt)
  F__law_round_spoilt : Fun K "_law_round_spoilt" "_law_round_spoilt" s__law_round_spoilt a__law_round_spoilt d__law_round_spoilt
  b__law_round_spoilt : Binds K d__law_round_spoilt ["things", "picks"] []
  g__law_round_spoilt : mg "_law_round_spoilt" = some (.ref a__law_round_spoilt)
  F_law : Fun K "law" "law" s_law a_law d_law
  b_law : Binds K d_law ["script"] []
  g_law : mg "law" = some (.ref a_law)
  z_all : mg "all" = none
  z_any : mg "any" = none
  z_bool : mg "bool" = none
  z_enumerate : mg "enumerate" = none
  z_int : mg "int" = none
  z_isinstance : mg "isinstance" = none
  z_len : mg "len" = none
  z_list : mg "list" = none
  z_min : mg "min" = none
  z_range : mg "range" = none
  z_set : mg "set" = none
  z_sorted : mg "sorted" = none
  z_tuple : mg "tuple" = none
  z_zip : mg "zip" = none
section
variable {P : Program} {w : World} {K : PySem.W.Frag} {mg : Str → Option Value} {base : Heap}
set_option maxHeartbeats 4000000 in
theorem ok_way_between (X : Tx K mg) : FnOk P w K mg base CX0 1 X.a_way_between X.d_way_between ["ways", "one", "other"] (spT K 3 Q.way_between) := by
  have nd : (N_way_between).Nodup := sc_way_between.nd
  exact fn_ok (k := 0) (N := N_way_between) X.F_way_between sc_way_between fun cdv A outer s H E hr =>
    psm_cons (psm_setF (i := 3) nd (pf_done (pm_var 1) (pm_non)))
      (psm_cons (psm_setF (i := 4) nd (pf_lst (paf_cons (pf_pure (pm_var 1)) (paf_nil))))
      (psm_cons (psm_while PassesOwn.never (ptm_w (pwm_and (ptm_cmp (op_neD hr.units) r2m_ne (pm_var 4) (pm_lst (pam_nil)) (nomark _)) (pwm_and1 (ptm_dnotin (u1 hr.units) (pm_var 2) (pm_var 3))))) (psm_cons (psm_setPopAt (j := 5) nd (pp_var 4) (pm_int))
      (psm_one (psm_for PassesOwn.never rfl (pim_range1 (fz := true) (by rfl) X.z_range (pm_callB call_lenA cm_len (by rfl) X.z_len bt_len (pam_cons (pm_var 0) (pam_nil)))) (gm_name (i := 6) nd) (psm_one (psm_if (ptm_w (pwm_and (ptm_val (pm_ix ix_seq r2m_ix (pm_ix ix_seq r2m_ix (pm_var 0) (pm_var 5) (fun _ _ => rfl)) (pm_var 6) (fun _ _ => rfl))) (pwm_and1 (ptm_dnotin (u1 hr.units) (pm_var 6) (pm_var 3))))) (psm_cons (psm_dput 3 (u1 hr.units) (pm_var 6) (pm_var 5))
      (psm_one (psm_append (pp_var 4) (pm_var 6)))) (psm_nil)))))))
      (psm_cons (psm_if (ptm_dnotin (u1 hr.units) (pm_var 2) (pm_var 3)) (psm_one (psm_ret (pm_non))) (psm_nil))
      (psm_cons (psm_setF (i := 7) nd (pf_lst (paf_cons (pf_pure (pm_var 2)) (paf_nil))))
      (psm_cons (psm_while PassesOwn.never (ptm_cmp (op_neD hr.units) r2m_ne (pm_ix ix_seq r2m_ix (pm_var 7) (pm_int) (fun _ _ => rfl)) (pm_var 1) (nomark _)) (psm_one (psm_insert (pp_var 7) (pm_int) (pm_dget (u1 hr.units) (pm_var 3) (pm_ix ix_seq r2m_ix (pm_var 7) (pm_int) (fun _ _ => rfl)) (fun _ _ => rfl)))))
      (psm_one (psm_retV 7)))))))
set_option maxHeartbeats 4000000 in
theorem ok_steps_of (X : Tx K mg) : FnOk P w K mg base CX0 1 X.a_steps_of X.d_steps_of ["numbers"] (spT K 1 Q.steps_of) := by
  have nd : (N_steps_of).Nodup := sc_steps_of.nd
  exact fn_ok (k := 0) (N := N_steps_of) X.F_steps_of sc_steps_of fun cdv A outer s H E hr =>
    psm_one (psm_ret (pm_lc (own := [("k", 1)]) rfl nd (pim_range1 (fz := true) (by rfl) X.z_range (pm_callB call_lenA cm_len (by rfl) X.z_len bt_len (pam_cons (pm_var 0) (pam_nil)))) (blkOk_by (by rfl)) (fun _ _ _ _ _ => gm_name (i := 1) nd) (fun _ _ _ _ _ => ptsm_nil) (fun _ _ _ _ _ => pm_tup (pam_cons (pm_ix ix_seq r2m_ix (pm_var 0) (pm_var 1) (fun _ _ => rfl)) (pam_cons (pm_ix ix_seq r2m_ix (pm_var 0) (pm_op op_modN r2m_mod (pm_op op_addA r2m_add (pm_var 1) (pm_int)) (pm_callB call_lenA cm_len (by rfl) X.z_len bt_len (pam_cons (pm_var 0) (pam_nil)))) (fun _ _ => rfl)) (pam_nil))))))
set_option maxHeartbeats 4000000 in
theorem ok_things_in (X : Tx K mg) : FnOk P w K mg base CX0 1 X.a_things_in X.d_things_in ["log"] (spT K 1 Q.things_in) := by
  have nd : (N_things_in).Nodup := sc_things_in.nd
  exact fn_ok (k := 0) (N := N_things_in) X.F_things_in sc_things_in fun cdv A outer s H E hr =>
    psm_cons (psm_setF (i := 1) nd (pf_dnew))
      (psm_cons (psm_for PassesOwn.never rfl (pim_seq (pm_var 0)) (gm_tup rfl (gsm_cons (gm_name (i := 2) nd) (gsm_cons (gm_name (i := 3) nd) (gsm_nil))) (gl_cons (gl_cons gl_nil))) (psm_one (psm_for PassesOwn.never rfl (pim_seq (pm_var 2)) (gm_name (i := 4) nd) (psm_one (psm_dput 1 (u1 hr.units) (pm_var 4) (pm_bl))))))
      (psm_one (psm_ret (pm_callB (cr_sortedD rfl) cm_sortedD (by rfl) X.z_sorted bt_sorted (pam_cons (pm_var 1) (pam_nil))))))
set_option maxHeartbeats 4000000 in
theorem ok_explains_log (X : Tx K mg) : FnOk P w K mg base CX0 2 X.a_explains_log X.d_explains_log ["log", "levels"] (spT K 2 Q.explains_log) := by
  have nd : (N_explains_log).Nodup := sc_explains_log.nd
  exact fn_ok (k := 1) (N := N_explains_log) X.F_explains_log sc_explains_log fun cdv A outer s H E hr =>
    psm_cons (psm_set (i := 2) nd (pm_lst (pam_nil)))
      (psm_cons (psm_for PassesOwn.never rfl (pim_seq (pm_var 1)) (gm_name (i := 3) nd) (psm_cons (psm_if (ptm_w (pwm_or (ptm_cmp (op_eqD hr.units) r2m_eq (pm_var 3) (pm_lst (pam_nil)) (nomark _)) (pwm_or1 (ptm_cmp (op_neD hr.units) r2m_ne (pm_var 3) (pm_sortSet (by rfl) X.z_sorted (by rfl) X.z_set rfl (pm_var 3)) (nomark _))))) (psm_one (psm_ret (pm_bl))) (psm_nil))
      (psm_one (psm_set (i := 2) nd (pm_op op_addA r2m_add (pm_var 2) (pm_var 3))))))
      (psm_cons (psm_if (ptm_cmp (op_neD hr.units) r2m_ne (pm_callB cr_sortAny cm_sortAny (by rfl) X.z_sorted bt_sorted (pam_cons (pm_var 2) (pam_nil))) (pm_call (ok_things_in X) (hr.mono (by decide)) (by rfl) X.g_things_in X.F_things_in.kp X.b_things_in (pam_cons (pm_var 0) (pam_nil)) len1) (nomark _)) (psm_one (psm_ret (pm_bl))) (psm_nil))
      (psm_cons (psm_for PassesOwn.never rfl (pim_seq (pm_var 0)) (gm_tup rfl (gsm_cons (gm_name (i := 4) nd) (gsm_cons (gm_name (i := 5) nd) (gsm_nil))) (gl_cons (gl_cons gl_nil))) (psm_cons (psm_set (i := 6) nd (pm_ix ix_seq r2m_ix (pm_lc (own := [("level", 3)]) rfl nd (pim_seqB (pm_var 1)) (blkOk_by (by rfl)) (fun _ _ _ _ _ => gm_name (i := 3) nd) (fun _ _ _ _ _ => ptsm_one (ptm_cmp (op_neD hr.units) r2m_ne (pm_lc (own := [("one", 7)]) rfl nd (pim_seqB (pm_var 3)) (blkOk_by (by rfl)) (fun _ _ _ _ _ => gm_name (i := 7) nd) (fun _ _ _ _ _ => ptsm_one (ptm_cmp op_in_seq r2m_in (pm_var 7) (pm_var 4) rfl)) (fun _ _ _ _ _ => pm_var 7)) (pm_lst (pam_nil)) (nomark _))) (fun _ _ _ _ _ => pm_var 3)) (pm_int) (fun _ _ => rfl)))
      (psm_one (psm_if (ptm_cmp (op_neD hr.units) r2m_ne (pm_callB cr_sortAny cm_sortAny (by rfl) X.z_sorted bt_sorted (pam_cons (pm_var 5) (pam_nil))) (pm_lc (own := [("one", 7)]) rfl nd (pim_seqB (pm_var 6)) (blkOk_by (by rfl)) (fun _ _ _ _ _ => gm_name (i := 7) nd) (fun _ _ _ _ _ => ptsm_one (ptm_cmp op_in_seq r2m_in (pm_var 7) (pm_var 4) rfl)) (fun _ _ _ _ _ => pm_var 7)) (nomark _)) (psm_one (psm_ret (pm_bl))) (psm_nil)))))
      (psm_one (psm_ret (pm_bl))))))
set_option maxHeartbeats 4000000 in
theorem ok_log_ways (X : Tx K mg) : FnOk P w K mg base CX0 1 X.a_log_ways X.d_log_ways ["log", "things"] (spT K 2 Q.log_ways) := by
  have nd : (N_log_ways).Nodup := sc_log_ways.nd
  exact fn_ok (k := 0) (N := N_log_ways) X.F_log_ways sc_log_ways fun cdv A outer s H E hr =>
    psm_cons (psm_setF (i := 2) nd (pf_lst (paf_nil)))
      (psm_cons (psm_setF (i := 3) nd (pf_lst (paf_nil)))
      (psm_cons (psm_for PassesOwn.never rfl (pim_seq (pm_var 1)) (gm_name (i := 4) nd) (psm_cons (psm_appendF (pp_var 2) (pf_rep (pm_lst (pam_cons (pm_bl) (pam_nil))) (pm_callB call_lenA cm_len (by rfl) X.z_len bt_len (pam_cons (pm_var 1) (pam_nil)))))
      (psm_one (psm_appendF (pp_var 3) (pf_rep (pm_lst (pam_cons (pm_bl) (pam_nil))) (pm_callB call_lenA cm_len (by rfl) X.z_len bt_len (pam_cons (pm_var 1) (pam_nil))))))))
      (psm_cons (psm_for PassesOwn.never rfl (pim_seq (pm_var 0)) (gm_tup rfl (gsm_cons (gm_name (i := 5) nd) (gsm_cons (gm_name (i := 6) nd) (gsm_nil))) (gl_cons (gl_cons gl_nil))) (psm_one (psm_for PassesOwn.never rfl (pim_seq (pm_var 6)) (gm_name (i := 4) nd) (psm_one (psm_for PassesOwn.never rfl (pim_seq (pm_var 5)) (gm_name (i := 7) nd) (psm_one (psm_if (ptm_cmp (op_neD hr.units) r2m_ne (pm_var 4) (pm_var 7) (nomark _)) (psm_cons (psm_setIx (pp_ix (pp_var 2) (pm_index (u65 hr) (pm_var 1) (pm_var 4)) (fun _ _ => rfl)) (pm_index (u65 hr) (pm_var 1) (pm_var 7)) (pm_bl))
      (psm_one (psm_if (ptm_cmp op_notIn_seq r2m_notIn (pm_var 7) (pm_var 6) rfl) (psm_one (psm_setIx (pp_ix (pp_var 3) (pm_index (u65 hr) (pm_var 1) (pm_var 4)) (fun _ _ => rfl)) (pm_index (u65 hr) (pm_var 1) (pm_var 7)) (pm_bl))) (psm_nil)))) (psm_nil))))))))
      (psm_frz 3 (psm_frz 2 (psm_frz 3 (psm_frz 2 (psm_one (psm_ret (pm_tup (pam_cons (pm_var 2) (pam_cons (pm_var 3) (pam_nil)))))))))))))
set_option maxHeartbeats 4000000 in
theorem ok_bars_log (X : Tx K mg) : FnOk P w K mg base CX0 2 X.a_bars_log X.d_bars_log ["log", "things"] (spT K 2 Q.bars_log) := by
  have nd : (N_bars_log).Nodup := sc_bars_log.nd
  exact fn_ok (k := 1) (N := N_bars_log) X.F_bars_log sc_bars_log fun cdv A outer s H E hr =>
    psm_cons (psm_set (i := 2) nd (pm_call (ok_things_in X) (hr.mono (by decide)) (by rfl) X.g_things_in X.F_things_in.kp X.b_things_in (pam_cons (pm_var 0) (pam_nil)) len1))
      (psm_cons (psm_if (ptm_w (pwm_or (ptm_cmp op_lt r2m_lt (pm_callB call_lenA cm_len (by rfl) X.z_len bt_len (pam_cons (pm_var 1) (pam_nil))) (pm_int) (nomark _)) (pwm_or (ptm_cmp (op_neD hr.units) r2m_ne (pm_lenSet (by rfl) X.z_len (by rfl) X.z_set rfl (pm_var 1)) (pm_callB call_lenA cm_len (by rfl) X.z_len bt_len (pam_cons (pm_var 1) (pam_nil))) (nomark _)) (pwm_or1 (ptm_not (ptm_val (pm_callB (cr_all rfl) cm_all (by rfl) X.z_all bt_all (pam_cons (pm_lc (own := [("one", 6)]) rfl nd (pim_seqB (pm_var 1)) (blkOk_by (by rfl)) (fun _ _ _ _ _ => gm_name (i := 6) nd) (fun _ _ _ _ _ => ptsm_nil) (fun _ _ _ _ _ => pm_cmp op_in_seq r2m_in (pm_var 6) (pm_var 2) rfl)) (pam_nil))))))))) (psm_one (psm_ret (pm_bl))) (psm_nil))
      (psm_cons (psm_asg (pm_call (ok_log_ways X) (hr.mono (by decide)) (by rfl) X.g_log_ways X.F_log_ways.kp X.b_log_ways (pam_cons (pm_var 0) (pam_cons (pm_var 2) (pam_nil))) (lenS len1)) (gm_tup rfl (gsm_cons (gm_name (i := 3) nd) (gsm_cons (gm_name (i := 4) nd) (gsm_nil))) (gl_cons (gl_cons gl_nil))))
      (psm_cons (psm_setLc (i := 5) (own := [("one", 6), ("other", 7)]) rfl nd (pim_seqB (pm_call (ok_steps_of X) (hr.mono (by decide)) (by rfl) X.g_steps_of X.F_steps_of.kp X.b_steps_of (pam_cons (pm_var 1) (pam_nil)) len1)) (blkOk_by (by rfl)) (fun _ _ _ _ _ => gm_tup rfl (gsm_cons (gm_name (i := 6) nd) (gsm_cons (gm_name (i := 7) nd) (gsm_nil))) (gl_cons (gl_cons gl_nil))) (fun _ _ _ _ _ => ptsm_nil) (fun _ _ _ _ _ => pm_tup (pam_cons (pm_index (u65 hr) (pm_var 2) (pm_var 6)) (pam_cons (pm_index (u65 hr) (pm_var 2) (pm_var 7)) (pam_nil)))) (sw_true rfl rfl rfl (by rfl)))
      (psm_one (psm_ret (pm_and (pm_callB (cr_all rfl) cm_all (by rfl) X.z_all bt_all (pam_cons (pm_lc (own := [("one", 6), ("other", 7)]) rfl nd (pim_seqB (pm_var 5)) (blkOk_by (by rfl)) (fun _ _ _ _ _ => gm_tup rfl (gsm_cons (gm_name (i := 6) nd) (gsm_cons (gm_name (i := 7) nd) (gsm_nil))) (gl_cons (gl_cons gl_nil))) (fun _ _ _ _ _ => ptsm_nil) (fun _ _ _ _ _ => pm_ix ix_seq r2m_ix (pm_ix ix_seq r2m_ix (pm_var 3) (pm_var 6) (fun _ _ => rfl)) (pm_var 7) (fun _ _ => rfl))) (pam_nil))) (pm_one (pm_callB (cr_any rfl) cm_any (by rfl) X.z_any bt_any (pam_cons (pm_lc (own := [("one", 6), ("other", 7)]) rfl nd (pim_seqB (pm_var 5)) (blkOk_by (by rfl)) (fun _ _ _ _ _ => gm_tup rfl (gsm_cons (gm_name (i := 6) nd) (gsm_cons (gm_name (i := 7) nd) (gsm_nil))) (gl_cons (gl_cons gl_nil))) (fun _ _ _ _ _ => ptsm_nil) (fun _ _ _ _ _ => pm_ix ix_seq r2m_ix (pm_ix ix_seq r2m_ix (pm_var 4) (pm_var 6) (fun _ _ => rfl)) (pm_var 7) (fun _ _ => rfl))) (pam_nil))))))))))
set_option maxHeartbeats 4000000 in
theorem ok_reached_from (X : Tx K mg) : FnOk P w K mg base CX0 1 X.a_reached_from X.d_reached_from ["steps", "one"] (spT K 2 Q.reached_from) := by
  have nd : (N_reached_from).Nodup := sc_reached_from.nd
  exact fn_ok (k := 0) (N := N_reached_from) X.F_reached_from sc_reached_from fun cdv A outer s H E hr =>
    psm_cons (psm_setF (i := 2) nd (pf_done (pm_var 1) (pm_bl)))
      (psm_cons (psm_setF (i := 3) nd (pf_lst (paf_cons (pf_pure (pm_var 1)) (paf_nil))))
      (psm_cons (psm_while PassesOwn.never (ptm_cmp (op_neD hr.units) r2m_ne (pm_var 3) (pm_lst (pam_nil)) (nomark _)) (psm_cons (psm_setPop (j := 4) nd (pp_var 3))
      (psm_one (psm_for PassesOwn.never rfl (pim_range1 (fz := true) (by rfl) X.z_range (pm_callB call_lenA cm_len (by rfl) X.z_len bt_len (pam_cons (pm_var 0) (pam_nil)))) (gm_name (i := 5) nd) (psm_one (psm_if (ptm_w (pwm_and (ptm_val (pm_ix ix_seq r2m_ix (pm_ix ix_seq r2m_ix (pm_var 0) (pm_var 4) (fun _ _ => rfl)) (pm_var 5) (fun _ _ => rfl))) (pwm_and1 (ptm_dnotin (u1 hr.units) (pm_var 5) (pm_var 2))))) (psm_cons (psm_dput 2 (u1 hr.units) (pm_var 5) (pm_bl))
      (psm_one (psm_append (pp_var 3) (pm_var 5)))) (psm_nil)))))))
      (psm_one (psm_retV 2))))
set_option maxHeartbeats 4000000 in
theorem ok_told_by_log (X : Tx K mg) : FnOk P w K mg base CX0 2 X.a_told_by_log X.d_told_by_log ["log"] (spT K 1 Q.told_by_log) := by
  have nd : (N_told_by_log).Nodup := sc_told_by_log.nd
  exact fn_ok (k := 1) (N := N_told_by_log) X.F_told_by_log sc_told_by_log fun cdv A outer s H E hr =>
    psm_cons (psm_set (i := 1) nd (pm_call (ok_things_in X) (hr.mono (by decide)) (by rfl) X.g_things_in X.F_things_in.kp X.b_things_in (pam_cons (pm_var 0) (pam_nil)) len1))
      (psm_cons (psm_asg (pm_call (ok_log_ways X) (hr.mono (by decide)) (by rfl) X.g_log_ways X.F_log_ways.kp X.b_log_ways (pam_cons (pm_var 0) (pam_cons (pm_var 1) (pam_nil))) (lenS len1)) (gm_tup rfl (gsm_cons (gm_name (i := 2) nd) (gsm_cons (gm_name (i := 3) nd) (gsm_nil))) (gl_cons (gl_cons gl_nil))))
      (psm_cons (psm_set (i := 4) nd (pm_callB call_lenA cm_len (by rfl) X.z_len bt_len (pam_cons (pm_var 1) (pam_nil))))
      (psm_cons (psm_for PassesOwn.never rfl (pim_range1 (fz := true) (by rfl) X.z_range (pm_var 4)) (gm_name (i := 5) nd) (psm_one (psm_for PassesOwn.never rfl (pim_range1 (fz := true) (by rfl) X.z_range (pm_var 4)) (gm_name (i := 6) nd) (psm_one (psm_if (ptm_val (pm_ix ix_seq r2m_ix (pm_ix ix_seq r2m_ix (pm_var 3) (pm_var 5) (fun _ _ => rfl)) (pm_var 6) (fun _ _ => rfl))) (psm_cons (psm_set (i := 7) nd (pm_call (ok_way_between X) (hr.mono (by decide)) (by rfl) X.g_way_between X.F_way_between.kp X.b_way_between (pam_cons (pm_var 2) (pam_cons (pm_var 6) (pam_cons (pm_var 5) (pam_nil)))) (lenS (lenS len1))))
      (psm_one (psm_if (ptm_cmp op_notN r2m_notn (pm_var 7) (pm_non) (nomark _)) (psm_one (psm_ret (pm_tup (pam_cons (pm_str) (pam_cons (pm_lc (own := [("k", 12)]) rfl nd (pim_seqB (pm_var 7)) (blkOk_by (by rfl)) (fun _ _ _ _ _ => gm_name (i := 12) nd) (fun _ _ _ _ _ => ptsm_nil) (fun _ _ _ _ _ => pm_ix ix_seq r2m_ix (pm_var 1) (pm_var 12) (fun _ _ => rfl))) (pam_nil)))))) (psm_nil)))) (psm_nil))))))
      (psm_cons (psm_set (i := 8) nd (pm_lc (own := [("one", 5)]) rfl nd (pim_range1 (fz := true) (by rfl) X.z_range (pm_var 4)) (blkOk_by (by rfl)) (fun _ _ _ _ _ => gm_name (i := 5) nd) (fun _ _ _ _ _ => ptsm_nil) (fun _ _ _ _ _ => pm_call (ok_reached_from X) (hr.mono (by decide)) (by rfl) X.g_reached_from X.F_reached_from.kp X.b_reached_from (pam_cons (pm_var 2) (pam_cons (pm_var 5) (pam_nil))) (lenS len1))))
      (psm_cons (psm_set (i := 9) nd (pm_listR1 rfl (by rfl) X.z_list (by rfl) X.z_range (pm_var 4)))
      (psm_cons (psm_setF (i := 10) nd (pf_lst (paf_nil)))
      (psm_cons (psm_while PassesOwn.never (ptm_cmp (op_neD hr.units) r2m_ne (pm_var 9) (pm_lst (pam_nil)) (nomark _)) (psm_cons (psm_set (i := 11) nd (pm_lc (own := [("k", 12)]) rfl nd (pim_seqB (pm_var 9)) (blkOk_by (by rfl)) (fun _ _ _ _ _ => gm_name (i := 12) nd) (fun _ _ _ _ _ => ptsm_one (ptm_val (pm_callB (cr_all rfl) cm_all (by rfl) X.z_all bt_all (pam_cons (pm_lc (own := [("j", 13)]) rfl nd (pim_seqB (pm_var 9)) (blkOk_by (by rfl)) (fun _ _ _ _ _ => gm_name (i := 13) nd) (fun _ _ _ _ _ => ptsm_nil) (fun _ _ _ _ _ => pm_or (pm_dnotin (u1 hr.units) (pm_var 12) (pm_ix ix_seq r2m_ix (pm_var 8) (pm_var 13) (fun _ _ => rfl))) (pm_one (pm_din (u1 hr.units) (pm_var 13) (pm_ix ix_seq r2m_ix (pm_var 8) (pm_var 12) (fun _ _ => rfl)))))) (pam_nil))))) (fun _ _ _ _ _ => pm_var 12)))
      (psm_cons (psm_append (pp_var 10) (pm_lc (own := [("k", 12)]) rfl nd (pim_seqB (pm_var 11)) (blkOk_by (by rfl)) (fun _ _ _ _ _ => gm_name (i := 12) nd) (fun _ _ _ _ _ => ptsm_nil) (fun _ _ _ _ _ => pm_ix ix_seq r2m_ix (pm_var 1) (pm_var 12) (fun _ _ => rfl))))
      (psm_one (psm_set (i := 9) nd (pm_lc (own := [("k", 12)]) rfl nd (pim_seqB (pm_var 9)) (blkOk_by (by rfl)) (fun _ _ _ _ _ => gm_name (i := 12) nd) (fun _ _ _ _ _ => ptsm_one (ptm_cmp op_notIn_seq r2m_notIn (pm_var 12) (pm_var 11) rfl)) (fun _ _ _ _ _ => pm_var 12)))))))
      (psm_frz 10 (psm_one (psm_ret (pm_tup (pam_cons (pm_str) (pam_cons (pm_var 10) (pam_nil))))))))))))))
set_option maxHeartbeats 4000000 in
theorem ok__law_cell_at (X : Tx K mg) : FnOk P w K mg base CX0 1 X.a__law_cell_at X.d__law_cell_at ["script", "k"] (spT K 2 Q.law_cell_at) := by
  have nd : (N__law_cell_at).Nodup := sc__law_cell_at.nd
  exact fn_ok (k := 0) (N := N__law_cell_at) X.F__law_cell_at sc__law_cell_at fun cdv A outer s H E hr =>
    psm_cons (psm_if (ptm_cmp op_lt r2m_lt (pm_var 1) (pm_callB call_lenA cm_len (by rfl) X.z_len bt_len (pam_cons (pm_var 0) (pam_nil))) (nomark _)) (psm_one (psm_ret (pm_ix ix_seq r2m_ix (pm_var 0) (pm_var 1) (fun _ _ => rfl)))) (psm_nil))
      (psm_one (psm_ret (pm_int)))
set_option maxHeartbeats 4000000 in
theorem ok__law_draws (X : Tx K mg) : FnOk P w K mg base CX0 1 X.a__law_draws X.d__law_draws ["cell", "many", "base"] (spT K 3 Q.law_draws) := by
  have nd : (N__law_draws).Nodup := sc__law_draws.nd
  exact fn_ok (k := 0) (N := N__law_draws) X.F__law_draws sc__law_draws fun cdv A outer s H E hr =>
    psm_cons (psm_setF (i := 3) nd (pf_lst (paf_nil)))
      (psm_cons (psm_set (i := 4) nd (pm_op op_mulA r2m_mul (pm_var 0) (pm_callTy call_intA cm_int (by rfl) X.z_int bt_int (pam_cons (pm_cmp op_ge r2m_ge (pm_var 0) (pm_op op_pow r2m_pow (pm_int) (pm_int)) (nomark _)) (pam_nil)))))
      (psm_cons (psm_set (i := 5) nd (pm_op op_modN r2m_mod (pm_var 0) (pm_int)))
      (psm_cons (psm_for PassesOwn.never rfl (pim_range1 (fz := true) (by rfl) X.z_range (pm_op op_addA r2m_add (pm_var 1) (pm_int))) (gm_name (i := 6) nd) (psm_cons (psm_set (i := 5) nd (pm_op op_modN r2m_mod (pm_op op_addA r2m_add (pm_op op_addA r2m_add (pm_op op_addA r2m_add (pm_op op_mulA r2m_mul (pm_var 5) (pm_var 5)) (pm_op op_mulA r2m_mul (pm_int) (pm_var 5))) (pm_var 6)) (pm_int)) (pm_int)))
      (psm_one (psm_if (ptm_w (pwm_and (ptm_cmp op_gt r2m_gt (pm_var 6) (pm_int) (nomark _)) (pwm_and1 (ptm_cmp op_gt r2m_gt (pm_var 4) (pm_int) (nomark _))))) (psm_cons (psm_append (pp_var 3) (pm_op op_modN r2m_mod (pm_var 4) (pm_var 2)))
      (psm_one (psm_set (i := 4) nd (pm_op op_fdivB r2m_fdiv (pm_var 4) (pm_var 2))))) (psm_one (psm_if (ptm_cmp op_gt r2m_gt (pm_var 6) (pm_int) (nomark _)) (psm_one (psm_append (pp_var 3) (pm_op op_modN r2m_mod (pm_op op_fdivB r2m_fdiv (pm_var 5) (pm_int)) (pm_var 2)))) (psm_nil)))))))
      (psm_one (psm_retV 3)))))
set_option maxHeartbeats 4000000 in
theorem ok__law_mixed (X : Tx K mg) : FnOk P w K mg base CX0 1 X.a__law_mixed X.d__law_mixed ["row", "picks"] (spT K 2 Q.law_mixed) := by
  have nd : (N__law_mixed).Nodup := sc__law_mixed.nd
  exact fn_ok (k := 0) (N := N__law_mixed) X.F__law_mixed sc__law_mixed fun cdv A outer s H E hr =>
    psm_cons (psm_setF (i := 2) nd (pf_lst (paf_nil)))
      (psm_cons (psm_for PassesOwn.never rfl (pim_enum (by rfl) X.z_enumerate (pm_var 0)) (gm_tup rfl (gsm_cons (gm_name (i := 3) nd) (gsm_cons (gm_name (i := 4) nd) (gsm_nil))) (gl_cons (gl_cons gl_nil))) (psm_one (psm_insert (pp_var 2) (pm_op op_modN r2m_mod (pm_ix ix_seq r2m_ix (pm_var 1) (pm_var 3) (fun _ _ => rfl)) (pm_op op_addA r2m_add (pm_callB call_lenA cm_len (by rfl) X.z_len bt_len (pam_cons (pm_var 2) (pam_nil))) (pm_int))) (pm_var 4))))
      (psm_one (psm_retV 2)))
set_option maxHeartbeats 4000000 in
theorem ok__law_a_log (X : Tx K mg) : FnOk P w K mg base CX0 2 X.a__law_a_log X.d__law_a_log ["script", "at", "most"] (spT K 3 Q.law_a_log) := by
  have nd : (N__law_a_log).Nodup := sc__law_a_log.nd
  exact fn_ok (k := 1) (N := N__law_a_log) X.F__law_a_log sc__law_a_log fun cdv A outer s H E hr =>
    psm_cons (psm_set (i := 3) nd (pm_call (ok__law_draws X) (hr.mono (by decide)) (by rfl) X.g__law_draws X.F__law_draws.kp X.b__law_draws (pam_cons (pm_call (ok__law_cell_at X) (hr.mono (by decide)) (by rfl) X.g__law_cell_at X.F__law_cell_at.kp X.b__law_cell_at (pam_cons (pm_var 0) (pam_cons (pm_var 1) (pam_nil))) (lenS len1)) (pam_cons (pm_int) (pam_cons (pm_op op_pow r2m_pow (pm_int) (pm_int)) (pam_nil)))) (lenS (lenS len1))))
      (psm_cons (psm_set (i := 4) nd (pm_op op_addA r2m_add (pm_int) (pm_op op_modN r2m_mod (pm_ix ix_seq r2m_ix (pm_var 3) (pm_int) (fun _ _ => rfl)) (pm_var 2))))
      (psm_cons (psm_setF (i := 5) nd (pf_lst (paf_nil)))
      (psm_cons (psm_set (i := 6) nd (pm_call (ok__law_draws X) (hr.mono (by decide)) (by rfl) X.g__law_draws X.F__law_draws.kp X.b__law_draws (pam_cons (pm_call (ok__law_cell_at X) (hr.mono (by decide)) (by rfl) X.g__law_cell_at X.F__law_cell_at.kp X.b__law_cell_at (pam_cons (pm_var 0) (pam_cons (pm_op op_addA r2m_add (pm_var 1) (pm_int)) (pam_nil))) (lenS len1)) (pam_cons (pm_int) (pam_cons (pm_op op_pow r2m_pow (pm_int) (pm_int)) (pam_nil)))) (lenS (lenS len1))))
      (psm_cons (psm_for PassesOwn.never rfl (pim_seq (pm_op op_addA r2m_add (pm_slice (pm_var 3) (pom_some (pm_int)) (pom_some (pm_op op_addA r2m_add (pm_op op_addA r2m_add (pm_int) (pm_int)) (pm_op op_modN r2m_mod (pm_ix ix_seq r2m_ix (pm_var 3) (pm_int) (fun _ _ => rfl)) (pm_int))))) (pm_slice (pm_var 6) (pom_none) (pom_some (pm_op op_mulA r2m_mul (pm_int) (pm_callTy call_intA cm_int (by rfl) X.z_int bt_int (pam_cons (pm_cmp (op_eqD hr.units) r2m_eq (pm_op op_modN r2m_mod (pm_ix ix_seq r2m_ix (pm_var 3) (pm_int) (fun _ _ => rfl)) (pm_int)) (pm_int) (nomark _)) (pam_nil)))))))) (gm_name (i := 7) nd) (psm_cons (psm_set (i := 8) nd (pm_op op_modN r2m_mod (pm_var 7) (pm_ix ix_seq r2m_ix (pm_lst (pam_cons (pm_int) (pam_cons (pm_int) (pam_cons (pm_int) (pam_nil))))) (pm_op op_modN r2m_mod (pm_ix ix_seq r2m_ix (pm_var 3) (pm_int) (fun _ _ => rfl)) (pm_int)) (fun _ _ => rfl))))
      (psm_one (psm_if (ptm_cmp op_notIn_seq r2m_notIn (pm_var 8) (pm_var 5) rfl) (psm_one (psm_append (pp_var 5) (pm_var 8))) (psm_nil)))))
      (psm_frz 5 (psm_cons (psm_setF (i := 9) nd (pf_lst (paf_nil)))
      (psm_cons (psm_for PassesOwn.never rfl (pim_range1 (fz := true) (by rfl) X.z_range (pm_var 4)) (gm_name (i := 10) nd) (psm_cons (psm_set (i := 11) nd (pm_call (ok__law_draws X) (hr.mono (by decide)) (by rfl) X.g__law_draws X.F__law_draws.kp X.b__law_draws (pam_cons (pm_op op_addA r2m_add (pm_call (ok__law_cell_at X) (hr.mono (by decide)) (by rfl) X.g__law_cell_at X.F__law_cell_at.kp X.b__law_cell_at (pam_cons (pm_var 0) (pam_cons (pm_op op_addA r2m_add (pm_var 1) (pm_int)) (pam_nil))) (lenS len1)) (pm_op op_mulA r2m_mul (pm_var 10) (pm_op op_addA r2m_add (pm_ix ix_seq r2m_ix (pm_var 3) (pm_int) (fun _ _ => rfl)) (pm_int)))) (pam_cons (pm_int) (pam_cons (pm_op op_pow r2m_pow (pm_int) (pm_int)) (pam_nil)))) (lenS (lenS len1))))
      (psm_cons (psm_set (i := 12) nd (pm_op op_modN r2m_mod (pm_op op_fdivB r2m_fdiv (pm_ix ix_seq r2m_ix (pm_var 11) (pm_int) (fun _ _ => rfl)) (pm_int)) (pm_callB call_lenA cm_len (by rfl) X.z_len bt_len (pam_cons (pm_var 5) (pam_nil)))))
      (psm_cons (psm_set (i := 13) nd (pm_slice (pm_op op_mulA r2m_mul (pm_var 5) (pm_int)) (pom_some (pm_var 12)) (pom_some (pm_op op_addA r2m_add (pm_var 12) (pm_callB (cr_minA rfl hr.units) cm_min (by rfl) X.z_min bt_min (pam_cons (pm_int) (pam_cons (pm_callB call_lenA cm_len (by rfl) X.z_len bt_len (pam_cons (pm_var 5) (pam_nil))) (pam_nil))))))))
      (psm_cons (psm_setLc (i := 14) (own := [("j", 19), ("one", 8)]) rfl nd (pim_enum (by rfl) X.z_enumerate (pm_var 13)) (blkOk_by (by rfl)) (fun _ _ _ _ _ => gm_tup rfl (gsm_cons (gm_name (i := 19) nd) (gsm_cons (gm_name (i := 8) nd) (gsm_nil))) (gl_cons (gl_cons gl_nil))) (fun _ _ _ _ _ => ptsm_one (ptm_cmp op_gt r2m_gt (pm_op op_modN r2m_mod (pm_ix ix_seq r2m_ix (pm_var 11) (pm_var 19) (fun _ _ => rfl)) (pm_int)) (pm_int) (nomark _))) (fun _ _ _ _ _ => pm_var 8) (sw_true rfl rfl rfl (by rfl)))
      (psm_cons (psm_set (i := 14) nd (pm_orL (pm_var 14) (pm_one (pm_lst (pam_cons (pm_ix ix_seq r2m_ix (pm_var 5) (pm_op op_modN r2m_mod (pm_ix ix_seq r2m_ix (pm_var 11) (pm_int) (fun _ _ => rfl)) (pm_callB call_lenA cm_len (by rfl) X.z_len bt_len (pam_cons (pm_var 5) (pam_nil)))) (fun _ _ => rfl)) (pam_nil))))))
      (psm_cons (psm_set (i := 14) nd (pm_call (ok__law_mixed X) (hr.mono (by decide)) (by rfl) X.g__law_mixed X.F__law_mixed.kp X.b__law_mixed (pam_cons (pm_var 14) (pam_cons (pm_slice (pm_var 11) (pom_some (pm_int)) (pom_some (pm_int))) (pam_nil))) (lenS len1)))
      (psm_cons (psm_set (i := 15) nd (pm_ix ix_seq r2m_ix (pm_lst (pam_cons (pm_int) (pam_cons (pm_int) (pam_nil)))) (pm_op op_modN r2m_mod (pm_ix ix_seq r2m_ix (pm_var 3) (pm_int) (fun _ _ => rfl)) (pm_int)) (fun _ _ => rfl)))
      (psm_cons (psm_set (i := 16) nd (pm_lc (own := [("one", 8)]) rfl nd (pim_seqB (pm_var 14)) (blkOk_by (by rfl)) (fun _ _ _ _ _ => gm_name (i := 8) nd) (fun _ _ _ _ _ => ptsm_nil) (fun _ _ _ _ _ => pm_op op_fdivB r2m_fdiv (pm_op op_modN r2m_mod (pm_op op_addA r2m_add (pm_op op_mulA r2m_mul (pm_op op_modN r2m_mod (pm_ix ix_seq r2m_ix (pm_var 3) (pm_int) (fun _ _ => rfl)) (pm_int)) (pm_var 8)) (pm_ix ix_seq r2m_ix (pm_var 3) (pm_int) (fun _ _ => rfl))) (pm_int)) (pm_var 15))))
      (psm_cons (psm_set (i := 17) nd (pm_callB (cr_minA rfl hr.units) cm_min (by rfl) X.z_min bt_min (pam_cons (pm_var 16) (pam_nil))))
      (psm_cons (psm_setLc (i := 18) (own := [("j", 19), ("one", 8)]) rfl nd (pim_enum (by rfl) X.z_enumerate (pm_var 14)) (blkOk_by (by rfl)) (fun _ _ _ _ _ => gm_tup rfl (gsm_cons (gm_name (i := 19) nd) (gsm_cons (gm_name (i := 8) nd) (gsm_nil))) (gl_cons (gl_cons gl_nil))) (fun _ _ _ _ _ => ptsm_one (ptm_cmp (op_eqD hr.units) r2m_eq (pm_ix ix_seq r2m_ix (pm_var 16) (pm_var 19) (fun _ _ => rfl)) (pm_var 17) (nomark _))) (fun _ _ _ _ _ => pm_var 8) (sw_true rfl rfl rfl (by rfl)))
      (psm_cons (psm_if (ptm_w (pwm_or (ptm_cmp (op_eqD hr.units) r2m_eq (pm_op op_modN r2m_mod (pm_ix ix_seq r2m_ix (pm_var 3) (pm_int) (fun _ _ => rfl)) (pm_int)) (pm_int) (nomark _)) (pwm_or1 (ptm_cmp (op_eqD hr.units) r2m_eq (pm_op op_modN r2m_mod (pm_ix ix_seq r2m_ix (pm_var 11) (pm_int) (fun _ _ => rfl)) (pm_int)) (pm_int) (nomark _))))) (psm_cons (psm_setLc (i := 18) (own := [("j", 19), ("one", 8)]) rfl nd (pim_enum (by rfl) X.z_enumerate (pm_var 14)) (blkOk_by (by rfl)) (fun _ _ _ _ _ => gm_tup rfl (gsm_cons (gm_name (i := 19) nd) (gsm_cons (gm_name (i := 8) nd) (gsm_nil))) (gl_cons (gl_cons gl_nil))) (fun _ _ _ _ _ => ptsm_one (ptm_cmp (op_eqD hr.units) r2m_eq (pm_op op_modN r2m_mod (pm_ix ix_seq r2m_ix (pm_var 11) (pm_op op_addA r2m_add (pm_int) (pm_var 19)) (fun _ _ => rfl)) (pm_int)) (pm_int) (nomark _))) (fun _ _ _ _ _ => pm_var 8) (sw_true rfl rfl rfl (by rfl)))
      (psm_one (psm_set (i := 18) nd (pm_orL (pm_var 18) (pm_one (pm_slice (pm_var 14) (pom_none) (pom_some (pm_int)))))))) (psm_nil))
      (psm_one (psm_append (pp_var 9) (pm_tup (pam_cons (pm_callTy call_tuple_of cm_tuple (by rfl) X.z_tuple bt_tuple (pam_cons (pm_var 14) (pam_nil))) (pam_cons (pm_callTy call_tuple_of cm_tuple (by rfl) X.z_tuple bt_tuple (pam_cons (pm_call (ok__law_mixed X) (hr.mono (by decide)) (by rfl) X.g__law_mixed X.F__law_mixed.kp X.b__law_mixed (pam_cons (pm_var 18) (pam_cons (pm_slice (pm_var 11) (pom_some (pm_int)) (pom_some (pm_int))) (pam_nil))) (lenS len1)) (pam_nil))) (pam_nil))))))))))))))))))
      (psm_one (psm_retV 9)))))))))
set_option maxHeartbeats 4000000 in
theorem ok__law_offered (X : Tx K mg) : FnOk P w K mg base CX0 1 X.a__law_offered X.d__law_offered ["log"] (spT K 1 Q.law_offered) := by
  have nd : (N__law_offered).Nodup := sc__law_offered.nd
  exact fn_ok (k := 0) (N := N__law_offered) X.F__law_offered sc__law_offered fun cdv A outer s H E hr =>
    psm_cons (psm_set (i := 1) nd (pm_lst (pam_nil)))
      (psm_cons (psm_for PassesOwn.never rfl (pim_seq (pm_var 0)) (gm_tup rfl (gsm_cons (gm_name (i := 2) nd) (gsm_cons (gm_name (i := 3) nd) (gsm_nil))) (gl_cons (gl_cons gl_nil))) (psm_one (psm_set (i := 1) nd (pm_op op_addA r2m_add (pm_var 1) (pm_lc (own := [("one", 4)]) rfl nd (pim_seqB (pm_var 2)) (blkOk_by (by rfl)) (fun _ _ _ _ _ => gm_name (i := 4) nd) (fun _ _ _ _ _ => ptsm_one (ptm_cmp op_notIn_seq r2m_notIn (pm_var 4) (pm_var 1) rfl)) (fun _ _ _ _ _ => pm_var 4))))))
      (psm_one (psm_ret (pm_callB cr_sortedI cm_sorted (by rfl) X.z_sorted bt_sorted (pam_cons (pm_var 1) (pam_nil))))))
set_option maxHeartbeats 4000000 in
theorem ok__law_explains (X : Tx K mg) : FnOk P w K mg base CX0 2 X.a__law_explains X.d__law_explains ["log", "levels"] (spT K 2 Q.law_explains_2) := by
  have nd : (N__law_explains).Nodup := sc__law_explains.nd
  exact fn_ok (k := 1) (N := N__law_explains) X.F__law_explains sc__law_explains fun cdv A outer s H E hr =>
    psm_cons (psm_set (i := 2) nd (pm_lst (pam_nil)))
      (psm_cons (psm_for PassesOwn.never rfl (pim_seq (pm_var 1)) (gm_name (i := 3) nd) (psm_cons (psm_if (ptm_w (pwm_or (ptm_cmp (op_eqD hr.units) r2m_eq (pm_var 3) (pm_lst (pam_nil)) (nomark _)) (pwm_or (ptm_cmp (op_neD hr.units) r2m_ne (pm_var 3) (pm_callB cr_sortAny cm_sortAny (by rfl) X.z_sorted bt_sorted (pam_cons (pm_var 3) (pam_nil))) (nomark _)) (pwm_or1 (ptm_cmp (op_neD hr.units) r2m_ne (pm_lenSet (by rfl) X.z_len (by rfl) X.z_set rfl (pm_var 3)) (pm_callB call_lenA cm_len (by rfl) X.z_len bt_len (pam_cons (pm_var 3) (pam_nil))) (nomark _)))))) (psm_one (psm_ret (pm_bl))) (psm_nil))
      (psm_one (psm_set (i := 2) nd (pm_op op_addA r2m_add (pm_var 2) (pm_callTy call_list_of cm_list (by rfl) X.z_list bt_list (pam_cons (pm_var 3) (pam_nil))))))))
      (psm_cons (psm_if (ptm_cmp (op_neD hr.units) r2m_ne (pm_callB cr_sortAny cm_sortAny (by rfl) X.z_sorted bt_sorted (pam_cons (pm_var 2) (pam_nil))) (pm_call (ok__law_offered X) (hr.mono (by decide)) (by rfl) X.g__law_offered X.F__law_offered.kp X.b__law_offered (pam_cons (pm_var 0) (pam_nil)) len1) (nomark _)) (psm_one (psm_ret (pm_bl))) (psm_nil))
      (psm_cons (psm_for PassesOwn.never rfl (pim_seq (pm_var 0)) (gm_tup rfl (gsm_cons (gm_name (i := 4) nd) (gsm_cons (gm_name (i := 5) nd) (gsm_nil))) (gl_cons (gl_cons gl_nil))) (psm_cons (psm_setF (i := 6) nd (pf_lst (paf_nil)))
      (psm_cons (psm_for PassesOwn.never rfl (pim_seq (pm_var 4)) (gm_name (i := 7) nd) (psm_one (psm_append (pp_var 6) (pm_ix ix_seq r2m_ix (pm_lc (own := [("k", 10)]) rfl nd (pim_range1 (fz := true) (by rfl) X.z_range (pm_callB call_lenA cm_len (by rfl) X.z_len bt_len (pam_cons (pm_var 1) (pam_nil)))) (blkOk_by (by rfl)) (fun _ _ _ _ _ => gm_name (i := 10) nd) (fun _ _ _ _ _ => ptsm_one (ptm_cmp op_in_seq r2m_in (pm_var 7) (pm_ix ix_seq r2m_ix (pm_var 1) (pm_var 10) (fun _ _ => rfl)) rfl)) (fun _ _ _ _ _ => pm_var 10)) (pm_int) (fun _ _ => rfl)))))
      (psm_frz 6 (psm_cons (psm_set (i := 8) nd (pm_callB (cr_minA rfl hr.units) cm_min (by rfl) X.z_min bt_min (pam_cons (pm_var 6) (pam_nil))))
      (psm_cons (psm_setLc (i := 9) (own := [("one", 7), ("place", 11)]) rfl nd (pim_zipM (by rfl) X.z_zip (pm_var 4) (pm_var 6)) (blkOk_by (by rfl)) (fun _ _ _ _ _ => gm_tup rfl (gsm_cons (gm_name (i := 7) nd) (gsm_cons (gm_name (i := 11) nd) (gsm_nil))) (gl_cons (gl_cons gl_nil))) (fun _ _ _ _ _ => ptsm_one (ptm_cmp (op_eqD hr.units) r2m_eq (pm_var 11) (pm_var 8) (nomark _))) (fun _ _ _ _ _ => pm_var 7) (sw_true rfl rfl rfl (by rfl)))
      (psm_one (psm_if (ptm_cmp (op_neD hr.units) r2m_ne (pm_callB cr_sortAny cm_sortAny (by rfl) X.z_sorted bt_sorted (pam_cons (pm_var 9) (pam_nil))) (pm_callB cr_sortAny cm_sortAny (by rfl) X.z_sorted bt_sorted (pam_cons (pm_var 5) (pam_nil))) (nomark _)) (psm_one (psm_ret (pm_bl))) (psm_nil)))))))))
      (psm_one (psm_ret (pm_bl))))))
set_option maxHeartbeats 4000000 in
theorem ok__law_bars (X : Tx K mg) : FnOk P w K mg base CX0 2 X.a__law_bars X.d__law_bars ["log", "things"] (spT K 2 Q.law_bars_2) := by
  have nd : (N__law_bars).Nodup := sc__law_bars.nd
  exact fn_ok (k := 1) (N := N__law_bars) X.F__law_bars sc__law_bars fun cdv A outer s H E hr =>
    psm_cons (psm_set (i := 2) nd (pm_call (ok__law_offered X) (hr.mono (by decide)) (by rfl) X.g__law_offered X.F__law_offered.kp X.b__law_offered (pam_cons (pm_var 0) (pam_nil)) len1))
      (psm_cons (psm_if (ptm_w (pwm_or (ptm_cmp op_lt r2m_lt (pm_callB call_lenA cm_len (by rfl) X.z_len bt_len (pam_cons (pm_var 1) (pam_nil))) (pm_int) (nomark _)) (pwm_or1 (ptm_cmp (op_neD hr.units) r2m_ne (pm_lenSet (by rfl) X.z_len (by rfl) X.z_set rfl (pm_var 1)) (pm_callB call_lenA cm_len (by rfl) X.z_len bt_len (pam_cons (pm_var 1) (pam_nil))) (nomark _))))) (psm_one (psm_ret (pm_bl))) (psm_nil))
      (psm_cons (psm_if (ptm_cmp (op_neD hr.units) r2m_ne (pm_lc (own := [("one", 5)]) rfl nd (pim_seqB (pm_var 1)) (blkOk_by (by rfl)) (fun _ _ _ _ _ => gm_name (i := 5) nd) (fun _ _ _ _ _ => ptsm_one (ptm_cmp op_notIn_seq r2m_notIn (pm_var 5) (pm_var 2) rfl)) (fun _ _ _ _ _ => pm_var 5)) (pm_lst (pam_nil)) (nomark _)) (psm_one (psm_ret (pm_bl))) (psm_nil))
      (psm_cons (psm_set (i := 3) nd (pm_bl))
      (psm_cons (psm_for PassesOwn.never rfl (pim_range1 (fz := true) (by rfl) X.z_range (pm_callB call_lenA cm_len (by rfl) X.z_len bt_len (pam_cons (pm_var 1) (pam_nil)))) (gm_name (i := 4) nd) (psm_cons (psm_set (i := 5) nd (pm_ix ix_seq r2m_ix (pm_var 1) (pm_op op_sub r2m_sub (pm_var 4) (pm_int)) (fun _ _ => rfl)))
      (psm_cons (psm_set (i := 6) nd (pm_ix ix_seq r2m_ix (pm_var 1) (pm_var 4) (fun _ _ => rfl)))
      (psm_cons (psm_setLc (i := 7) (own := [("offers", 8), ("taken", 9)]) rfl nd (pim_seqB (pm_var 0)) (blkOk_by (by rfl)) (fun _ _ _ _ _ => gm_tup rfl (gsm_cons (gm_name (i := 8) nd) (gsm_cons (gm_name (i := 9) nd) (gsm_nil))) (gl_cons (gl_cons gl_nil))) (fun _ _ _ _ _ => ptsm_one (ptm_w (pwm_and (ptm_cmp op_in_seq r2m_in (pm_var 5) (pm_var 9) rfl) (pwm_and1 (ptm_cmp op_in_seq r2m_in (pm_var 6) (pm_var 8) rfl))))) (fun _ _ _ _ _ => pm_var 9) (sw_true rfl rfl rfl (by rfl)))
      (psm_cons (psm_if (ptm_cmp (op_eqD hr.units) r2m_eq (pm_var 7) (pm_lst (pam_nil)) (nomark _)) (psm_one (psm_ret (pm_bl))) (psm_nil))
      (psm_one (psm_set (i := 3) nd (pm_or (pm_var 3) (pm_one (pm_cmp (op_neD hr.units) r2m_ne (pm_lc (own := [("taken", 9)]) rfl nd (pim_seqB (pm_var 7)) (blkOk_by (by rfl)) (fun _ _ _ _ _ => gm_name (i := 9) nd) (fun _ _ _ _ _ => ptsm_one (ptm_cmp op_notIn_seq r2m_notIn (pm_var 6) (pm_var 9) rfl)) (fun _ _ _ _ _ => pm_var 9)) (pm_lst (pam_nil)) (nomark _)))))))))))
      (psm_one (psm_retV 3))))))
set_option maxHeartbeats 4000000 in
theorem ok__law_levels_spoilt (X : Tx K mg) : FnOk P w K mg base CX0 1 X.a__law_levels_spoilt X.d__law_levels_spoilt ["levels", "picks"] (spT K 2 Q.law_levels_spoilt) := by
  have nd : (N__law_levels_spoilt).Nodup := sc__law_levels_spoilt.nd
  exact fn_ok (k := 0) (N := N__law_levels_spoilt) X.F__law_levels_spoilt sc__law_levels_spoilt fun cdv A outer s H E hr =>
    psm_frz 0 (psm_cons (psm_setLcT (i := 0) (own := [("level", 9)]) rfl nd (pim_seqB (pm_var 0)) (blkOk_by (by rfl)) (fun _ _ _ _ _ => gm_name (i := 9) nd) (fun _ _ _ _ _ => ptsm_nil) (fun _ _ _ _ _ => pf_list (by rfl) X.z_list (pm_var 9)) (sw_true rfl rfl rfl (by rfl)))
      (psm_cons (psm_set (i := 2) nd (pm_op op_modN r2m_mod (pm_ix ix_seq r2m_ix (pm_var 1) (pm_int) (fun _ _ => rfl)) (pm_callB call_lenA cm_len (by rfl) X.z_len bt_len (pam_cons (pm_var 0) (pam_nil)))))
      (psm_cons (psm_set (i := 3) nd (pm_op op_modN r2m_mod (pm_ix ix_seq r2m_ix (pm_var 1) (pm_int) (fun _ _ => rfl)) (pm_callB call_lenA cm_len (by rfl) X.z_len bt_len (pam_cons (pm_ix ix_seq r2m_ix (pm_var 0) (pm_var 2) (fun _ _ => rfl)) (pam_nil)))))
      (psm_cons (psm_set (i := 4) nd (pm_op op_modN r2m_mod (pm_ix ix_seq r2m_ix (pm_var 1) (pm_int) (fun _ _ => rfl)) (pm_int)))
      (psm_cons (psm_if (ptm_cmp op_lt r2m_lt (pm_var 4) (pm_int) (nomark _)) (psm_cons (psm_setPopAt (j := 5) nd (pp_ix (pp_var 0) (pm_var 2) (fun _ _ => rfl)) (pm_var 3))
      (psm_cons (psm_if (ptm_cmp (op_eqD hr.units) r2m_eq (pm_var 4) (pm_int) (nomark _)) (psm_cons (psm_set (i := 6) nd (pm_op op_modN r2m_mod (pm_ix ix_seq r2m_ix (pm_var 1) (pm_int) (fun _ _ => rfl)) (pm_callB call_lenA cm_len (by rfl) X.z_len bt_len (pam_cons (pm_var 0) (pam_nil)))))
      (psm_one (psm_setIx (pp_var 0) (pm_var 6) (pm_callB cr_sortedI cm_sorted (by rfl) X.z_sorted bt_sorted (pam_cons (pm_op op_addA r2m_add (pm_ix ix_seq r2m_ix (pm_var 0) (pm_var 6) (fun _ _ => rfl)) (pm_lst (pam_cons (pm_var 5) (pam_nil)))) (pam_nil)))))) (psm_nil))
      (psm_frz 0 (psm_one (psm_setLc (i := 0) (own := [("level", 9)]) rfl nd (pim_seqB (pm_var 0)) (blkOk_by (by rfl)) (fun _ _ _ _ _ => gm_name (i := 9) nd) (fun _ _ _ _ _ => ptsm_one (ptm_cmp (op_neD hr.units) r2m_ne (pm_var 9) (pm_lst (pam_nil)) (nomark _))) (fun _ _ _ _ _ => pm_var 9) (sw_true rfl rfl rfl (by rfl))))))) (psm_nil))
      (psm_cons (psm_if (ptm_cmp (op_eqD hr.units) r2m_eq (pm_var 4) (pm_int) (nomark _)) (psm_one (psm_setIx (pp_var 0) (pm_var 2) (pm_callB cr_sortedI cm_sorted (by rfl) X.z_sorted bt_sorted (pam_cons (pm_op op_addA r2m_add (pm_ix ix_seq r2m_ix (pm_var 0) (pm_var 2) (fun _ _ => rfl)) (pm_lst (pam_cons (pm_ix ix_seq r2m_ix (pm_ix ix_seq r2m_ix (pm_var 0) (pm_op op_modN r2m_mod (pm_ix ix_seq r2m_ix (pm_var 1) (pm_int) (fun _ _ => rfl)) (pm_callB call_lenA cm_len (by rfl) X.z_len bt_len (pam_cons (pm_var 0) (pam_nil)))) (fun _ _ => rfl)) (pm_int) (fun _ _ => rfl)) (pam_nil)))) (pam_nil))))) (psm_nil))
      (psm_cons (psm_if (ptm_cmp (op_eqD hr.units) r2m_eq (pm_var 4) (pm_int) (nomark _)) (psm_one (psm_setIx (pp_var 0) (pm_var 2) (pm_callB cr_sortedI cm_sorted (by rfl) X.z_sorted bt_sorted (pam_cons (pm_op op_addA r2m_add (pm_ix ix_seq r2m_ix (pm_var 0) (pm_var 2) (fun _ _ => rfl)) (pm_lst (pam_cons (pm_op op_modN r2m_mod (pm_ix ix_seq r2m_ix (pm_var 1) (pm_int) (fun _ _ => rfl)) (pm_int)) (pam_nil)))) (pam_nil))))) (psm_nil))
      (psm_cons (psm_if (ptm_cmp (op_eqD hr.units) r2m_eq (pm_var 4) (pm_int) (nomark _)) (psm_cons (psm_setLc (i := 7) (own := [("level", 9)]) rfl nd (pim_seqB (pm_tup (pam_cons (pm_slice (pm_ix ix_seq r2m_ix (pm_var 0) (pm_var 2) (fun _ _ => rfl)) (pom_none) (pom_some (pm_var 3))) (pam_cons (pm_slice (pm_ix ix_seq r2m_ix (pm_var 0) (pm_var 2) (fun _ _ => rfl)) (pom_some (pm_var 3)) (pom_none)) (pam_nil))))) (blkOk_by (by rfl)) (fun _ _ _ _ _ => gm_name (i := 9) nd) (fun _ _ _ _ _ => ptsm_one (ptm_cmp (op_neD hr.units) r2m_ne (pm_var 9) (pm_lst (pam_nil)) (nomark _))) (fun _ _ _ _ _ => pm_var 9) (sw_true rfl rfl rfl (by rfl)))
      (psm_frz 0 (psm_one (psm_set (i := 0) nd (pm_op op_addA r2m_add (pm_op op_addA r2m_add (pm_slice (pm_var 0) (pom_none) (pom_some (pm_var 2))) (pm_var 7)) (pm_slice (pm_var 0) (pom_some (pm_op op_addA r2m_add (pm_var 2) (pm_int))) (pom_none))))))) (psm_nil))
      (psm_cons (psm_if (ptm_w (pwm_and (ptm_cmp (op_eqD hr.units) r2m_eq (pm_var 4) (pm_int) (nomark _)) (pwm_and1 (ptm_cmp (op_eqD hr.units) r2m_eq (pm_var 2) (pm_int) (nomark _))))) (psm_frz 0 (psm_one (psm_set (i := 0) nd (pm_revA (pm_var 0))))) (psm_one (psm_if (ptm_cmp (op_eqD hr.units) r2m_eq (pm_var 4) (pm_int) (nomark _)) (psm_cons (psm_set (i := 8) nd (pm_callB cr_sortedI cm_sorted (by rfl) X.z_sorted bt_sorted (pam_cons (pm_op op_addA r2m_add (pm_ix ix_seq r2m_ix (pm_var 0) (pm_op op_sub r2m_sub (pm_var 2) (pm_int)) (fun _ _ => rfl)) (pm_ix ix_seq r2m_ix (pm_var 0) (pm_var 2) (fun _ _ => rfl))) (pam_nil))))
      (psm_frz 0 (psm_one (psm_set (i := 0) nd (pm_op op_addA r2m_add (pm_op op_addA r2m_add (pm_slice (pm_var 0) (pom_none) (pom_some (pm_op op_sub r2m_sub (pm_var 2) (pm_int)))) (pm_lst (pam_cons (pm_var 8) (pam_nil)))) (pm_slice (pm_var 0) (pom_some (pm_op op_addA r2m_add (pm_var 2) (pm_int))) (pom_none))))))) (psm_nil))))
      (psm_cons (psm_if (ptm_cmp (op_eqD hr.units) r2m_eq (pm_var 4) (pm_int) (nomark _)) (psm_one (psm_insert (pp_var 0) (pm_var 2) (pm_lst (pam_nil)))) (psm_nil))
      (psm_cons (psm_if (ptm_cmp (op_eqD hr.units) r2m_eq (pm_var 4) (pm_int) (nomark _)) (psm_one (psm_setIx (pp_var 0) (pm_var 2) (pm_revA (pm_ix ix_seq r2m_ix (pm_var 0) (pm_var 2) (fun _ _ => rfl))))) (psm_nil))
      (psm_one (psm_retV 0)))))))))))))
set_option maxHeartbeats 4000000 in
theorem ok__law_round_spoilt (X : Tx K mg) : FnOk P w K mg base CX0 1 X.a__law_round_spoilt X.d__law_round_spoilt ["things", "picks"] (spT K 2 Q.law_round_spoilt_3) := by
  have nd : (N__law_round_spoilt).Nodup := sc__law_round_spoilt.nd
  exact fn_ok (k := 0) (N := N__law_round_spoilt) X.F__law_round_spoilt sc__law_round_spoilt fun cdv A outer s H E hr =>
    psm_cons (psm_setF (i := 0) nd (pf_list (by rfl) X.z_list (pm_var 0)))
      (psm_cons (psm_set (i := 2) nd (pm_op op_modN r2m_mod (pm_ix ix_seq r2m_ix (pm_var 1) (pm_int) (fun _ _ => rfl)) (pm_callB call_lenA cm_len (by rfl) X.z_len bt_len (pam_cons (pm_var 0) (pam_nil)))))
      (psm_cons (psm_set (i := 3) nd (pm_op op_modN r2m_mod (pm_ix ix_seq r2m_ix (pm_var 1) (pm_int) (fun _ _ => rfl)) (pm_int)))
      (psm_cons (psm_if (ptm_cmp (op_eqD hr.units) r2m_eq (pm_var 3) (pm_int) (nomark _)) (psm_one (psm_setIx (pp_var 0) (pm_var 2) (pm_op op_modN r2m_mod (pm_ix ix_seq r2m_ix (pm_var 1) (pm_int) (fun _ _ => rfl)) (pm_int)))) (psm_nil))
      (psm_cons (psm_if (ptm_cmp (op_eqD hr.units) r2m_eq (pm_var 3) (pm_int) (nomark _)) (psm_one (psm_popAt (pp_var 0) (pm_var 2))) (psm_nil))
      (psm_cons (psm_if (ptm_cmp (op_eqD hr.units) r2m_eq (pm_var 3) (pm_int) (nomark _)) (psm_one (psm_insert (pp_var 0) (pm_var 2) (pm_ix ix_seq r2m_ix (pm_var 0) (pm_op op_modN r2m_mod (pm_ix ix_seq r2m_ix (pm_var 1) (pm_int) (fun _ _ => rfl)) (pm_callB call_lenA cm_len (by rfl) X.z_len bt_len (pam_cons (pm_var 0) (pam_nil)))) (fun _ _ => rfl)))) (psm_nil))
      (psm_frz 0 (psm_cons (psm_if (ptm_cmp (op_eqD hr.units) r2m_eq (pm_var 3) (pm_int) (nomark _)) (psm_one (psm_set (i := 0) nd (pm_revA (pm_var 0)))) (psm_nil))
      (psm_cons (psm_if (ptm_cmp (op_eqD hr.units) r2m_eq (pm_var 3) (pm_int) (nomark _)) (psm_one (psm_set (i := 0) nd (pm_op op_addA r2m_add (pm_slice (pm_var 0) (pom_some (pm_var 2)) (pom_none)) (pm_slice (pm_var 0) (pom_none) (pom_some (pm_var 2)))))) (psm_nil))
      (psm_one (psm_retV 0))))))))))
set_option maxHeartbeats 4000000 in
theorem ok_law (X : Tx K mg) : FnOk P w K mg base CX0 3 X.a_law X.d_law ["script"] (spT K 1 Q.k25_law) := by
  have nd : (N_law).Nodup := sc_law.nd
  exact fn_ok (k := 2) (N := N_law) X.F_law sc_law fun cdv A outer s H E hr =>
    psm_cons (psm_set (i := 1) nd (pm_call (ok__law_a_log X) (hr.mono (by decide)) (by rfl) X.g__law_a_log X.F__law_a_log.kp X.b__law_a_log (pam_cons (pm_var 0) (pam_cons (pm_int) (pam_cons (pm_int) (pam_nil)))) (lenS (lenS len1))))
      (psm_cons (psm_asg (pm_call (ok_told_by_log X) (hr.mono (by decide)) (by rfl) X.g_told_by_log X.F_told_by_log.kp X.b_told_by_log (pam_cons (pm_var 1) (pam_nil)) len1) (gm_tup rfl (gsm_cons (gm_name (i := 2) nd) (gsm_cons (gm_name (i := 3) nd) (gsm_nil))) (gl_cons (gl_cons gl_nil))))
      (psm_cons (psm_for PassesOwn.never rfl (pim_seq (pm_op op_addA r2m_add (pm_lst (pam_cons (pm_call (ok__law_cell_at X) (hr.mono (by decide)) (by rfl) X.g__law_cell_at X.F__law_cell_at.kp X.b__law_cell_at (pam_cons (pm_var 0) (pam_cons (pm_int) (pam_nil))) (lenS len1)) (pam_nil))) (pm_slice (pm_var 0) (pom_some (pm_int)) (pom_some (pm_int))))) (gm_name (i := 4) nd) (psm_cons (psm_set (i := 5) nd (pm_call (ok__law_draws X) (hr.mono (by decide)) (by rfl) X.g__law_draws X.F__law_draws.kp X.b__law_draws (pam_cons (pm_var 4) (pam_cons (pm_int) (pam_cons (pm_int) (pam_nil)))) (lenS (lenS len1))))
      (psm_cons (psm_setLc (i := 6) (own := [("k", 11), ("pick", 12)]) rfl nd (pim_enum (by rfl) X.z_enumerate (pm_op op_mulA r2m_mul (pm_var 5) (pm_int))) (blkOk_by (by rfl)) (fun _ _ _ _ _ => gm_tup rfl (gsm_cons (gm_name (i := 11) nd) (gsm_cons (gm_name (i := 12) nd) (gsm_nil))) (gl_cons (gl_cons gl_nil))) (fun _ _ _ _ _ => ptsm_nil) (fun _ _ _ _ _ => pm_op op_addA r2m_add (pm_var 12) (pm_var 11)) (sw_true rfl rfl rfl (by rfl)))
      (psm_cons (psm_setLc (i := 7) (own := [("one", 13)]) rfl nd (pim_seqB (pm_call (ok__law_mixed X) (hr.mono (by decide)) (by rfl) X.g__law_mixed X.F__law_mixed.kp X.b__law_mixed (pam_cons (pm_call (ok__law_offered X) (hr.mono (by decide)) (by rfl) X.g__law_offered X.F__law_offered.kp X.b__law_offered (pam_cons (pm_var 1) (pam_nil)) len1) (pam_cons (pm_var 6) (pam_nil))) (lenS len1))) (blkOk_by (by rfl)) (fun _ _ _ _ _ => gm_name (i := 13) nd) (fun _ _ _ _ _ => ptsm_nil) (fun _ _ _ _ _ => pm_lst (pam_cons (pm_var 13) (pam_nil))) (sw_true rfl rfl rfl (by rfl)))
      (psm_cons (psm_set (i := 8) nd (pm_slice (pm_call (ok__law_offered X) (hr.mono (by decide)) (by rfl) X.g__law_offered X.F__law_offered.kp X.b__law_offered (pam_cons (pm_var 1) (pam_nil)) len1) (pom_none) (pom_some (pm_op op_addA r2m_add (pm_int) (pm_op op_modN r2m_mod (pm_ix ix_seq r2m_ix (pm_var 5) (pm_int) (fun _ _ => rfl)) (pm_int))))))
      (psm_cons (psm_if (ptm_cmp (op_eqD hr.units) r2m_eq (pm_var 2) (pm_str) (nomark _)) (psm_one (psm_set (i := 7) nd (pm_var 3))) (psm_one (psm_set (i := 8) nd (pm_var 3))))
      (psm_cons (psm_set (i := 7) nd (pm_call (ok__law_levels_spoilt X) (hr.mono (by decide)) (by rfl) X.g__law_levels_spoilt X.F__law_levels_spoilt.kp X.b__law_levels_spoilt (pam_cons (pm_var 7) (pam_cons (pm_var 5) (pam_nil))) (lenS len1)))
      (psm_cons (psm_set (i := 8) nd (pm_call (ok__law_round_spoilt X) (hr.mono (by decide)) (by rfl) X.g__law_round_spoilt X.F__law_round_spoilt.kp X.b__law_round_spoilt (pam_cons (pm_var 8) (pam_cons (pm_var 5) (pam_nil))) (lenS len1)))
      (psm_cons (psm_set (i := 9) nd (pm_lst (pam_cons (pm_lc (own := [("level", 14)]) rfl nd (pim_seqB (pm_var 7)) (blkOk_by (by rfl)) (fun _ _ _ _ _ => gm_name (i := 14) nd) (fun _ _ _ _ _ => ptsm_nil) (fun _ _ _ _ _ => pm_callTy call_list_of cm_list (by rfl) X.z_list bt_list (pam_cons (pm_var 14) (pam_nil)))) (pam_cons (pm_callTy call_list_of cm_list (by rfl) X.z_list bt_list (pam_cons (pm_var 8) (pam_nil))) (pam_nil)))))
      (psm_cons (psm_set (i := 10) nd (pm_call (ok_explains_log X) (hr.mono (by decide)) (by rfl) X.g_explains_log X.F_explains_log.kp X.b_explains_log (pam_cons (pm_callTy call_list_of cm_list (by rfl) X.z_list bt_list (pam_cons (pm_var 1) (pam_nil))) (pam_cons (pm_ix ix_seq r2m_ix (pm_var 9) (pm_int) (fun _ _ => rfl)) (pam_nil))) (lenS len1)))
      (psm_cons (psm_if (ptm_w (pwm_or (ptm_not (ptm_val (pm_isi (by rfl) X.z_isinstance (by rfl) X.z_bool bt_bool isi_bool (pm_var 10)))) (pwm_or1 (ptm_cmp (op_neD hr.units) r2m_ne (pm_var 10) (pm_call (ok__law_explains X) (hr.mono (by decide)) (by rfl) X.g__law_explains X.F__law_explains.kp X.b__law_explains (pam_cons (pm_var 1) (pam_cons (pm_var 7) (pam_nil))) (lenS len1)) (nomark _))))) (psm_one (psm_ret (pm_bl))) (psm_nil))
      (psm_cons (psm_set (i := 10) nd (pm_call (ok_bars_log X) (hr.mono (by decide)) (by rfl) X.g_bars_log X.F_bars_log.kp X.b_bars_log (pam_cons (pm_callTy call_list_of cm_list (by rfl) X.z_list bt_list (pam_cons (pm_var 1) (pam_nil))) (pam_cons (pm_ix ix_seq r2m_ix (pm_var 9) (pm_int) (fun _ _ => rfl)) (pam_nil))) (lenS len1)))
      (psm_cons (psm_if (ptm_w (pwm_or (ptm_not (ptm_val (pm_isi (by rfl) X.z_isinstance (by rfl) X.z_bool bt_bool isi_bool (pm_var 10)))) (pwm_or1 (ptm_cmp (op_neD hr.units) r2m_ne (pm_var 10) (pm_call (ok__law_bars X) (hr.mono (by decide)) (by rfl) X.g__law_bars X.F__law_bars.kp X.b__law_bars (pam_cons (pm_var 1) (pam_cons (pm_var 8) (pam_nil))) (lenS len1)) (nomark _))))) (psm_one (psm_ret (pm_bl))) (psm_nil))
      (psm_one (psm_if (ptm_cmp (op_neD hr.units) r2m_ne (pm_var 9) (pm_lst (pam_cons (pm_var 7) (pam_cons (pm_var 8) (pam_nil)))) (nomark _)) (psm_one (psm_ret (pm_bl))) (psm_nil))))))))))))))))
      (psm_one (psm_ret (pm_bl)))))
end
end W
namespace W
open M
theorem law_true (ns : List Int) (_ : ns.length ≤ 63) : Q.k25_law [.sc ns] = some (.p (.bool true)) := C.k25_true ns
end W
namespace W
open PySem PySem.Spec PyProof.Rows L2 M
set_option maxHeartbeats 8000000 in
theorem all_mk {l : PySem.W.OpenLaw} {w : World} {K : PySem.W.Frag} {h : Heap} {mg : Str → Option Value} {fa : Addr} (Y : K.In h) (G : h.Ns mainGlobals mg) (hfa : mg "law" = some (.ref fa))
    {f0 : Addr} {od0 an0 : Option Addr} {sl0 : Array (Option Value)} {oc0 kV0 dc0 pm0 cd0 ct0 : Value}
    (a0 : PySem.W.nsIn K mainGlobals "way_between" = some (some (.ref f0))) (l0 : K.lookup f0 = some ⟨oc0, od0, .func (PySem.W.fnOf "way_between" "way_between" (defArgs s_way_between) (defBody s_way_between) (defScope s_way_between) .none kV0 dc0 pm0 an0 cd0 ct0), sl0⟩) (c0 : PySem.W.codeIn K cd0 "way_between" = true) (k0 : PySem.W.keepIn K (.ref f0) = true)
    {f1 : Addr} {od1 an1 : Option Addr} {sl1 : Array (Option Value)} {oc1 kV1 dc1 pm1 cd1 ct1 : Value}
    (a1 : PySem.W.nsIn K mainGlobals "steps_of" = some (some (.ref f1))) (l1 : K.lookup f1 = some ⟨oc1, od1, .func (PySem.W.fnOf "steps_of" "steps_of" (defArgs s_steps_of) (defBody s_steps_of) (defScope s_steps_of) .none kV1 dc1 pm1 an1 cd1 ct1), sl1⟩) (c1 : PySem.W.codeIn K cd1 "steps_of" = true) (k1 : PySem.W.keepIn K (.ref f1) = true)
    {f2 : Addr} {od2 an2 : Option Addr} {sl2 : Array (Option Value)} {oc2 kV2 dc2 pm2 cd2 ct2 : Value}
    (a2 : PySem.W.nsIn K mainGlobals "things_in" = some (some (.ref f2))) (l2 : K.lookup f2 = some ⟨oc2, od2, .func (PySem.W.fnOf "things_in" "things_in" (defArgs s_things_in) (defBody s_things_in) (defScope s_things_in) .none kV2 dc2 pm2 an2 cd2 ct2), sl2⟩) (c2 : PySem.W.codeIn K cd2 "things_in" = true) (k2 : PySem.W.keepIn K (.ref f2) = true)
    {f3 : Addr} {od3 an3 : Option Addr} {sl3 : Array (Option Value)} {oc3 kV3 dc3 pm3 cd3 ct3 : Value}
    (a3 : PySem.W.nsIn K mainGlobals "explains_log" = some (some (.ref f3))) (l3 : K.lookup f3 = some ⟨oc3, od3, .func (PySem.W.fnOf "explains_log" "explains_log" (defArgs s_explains_log) (defBody s_explains_log) (defScope s_explains_log) .none kV3 dc3 pm3 an3 cd3 ct3), sl3⟩) (c3 : PySem.W.codeIn K cd3 "explains_log" = true) (k3 : PySem.W.keepIn K (.ref f3) = true)
    {f4 : Addr} {od4 an4 : Option Addr} {sl4 : Array (Option Value)} {oc4 kV4 dc4 pm4 cd4 ct4 : Value}
    (a4 : PySem.W.nsIn K mainGlobals "log_ways" = some (some (.ref f4))) (l4 : K.lookup f4 = some ⟨oc4, od4, .func (PySem.W.fnOf "log_ways" "log_ways" (defArgs s_log_ways) (defBody s_log_ways) (defScope s_log_ways) .none kV4 dc4 pm4 an4 cd4 ct4), sl4⟩) (c4 : PySem.W.codeIn K cd4 "log_ways" = true) (k4 : PySem.W.keepIn K (.ref f4) = true)
    {f5 : Addr} {od5 an5 : Option Addr} {sl5 : Array (Option Value)} {oc5 kV5 dc5 pm5 cd5 ct5 : Value}
    (a5 : PySem.W.nsIn K mainGlobals "bars_log" = some (some (.ref f5))) (l5 : K.lookup f5 = some ⟨oc5, od5, .func (PySem.W.fnOf "bars_log" "bars_log" (defArgs s_bars_log) (defBody s_bars_log) (defScope s_bars_log) .none kV5 dc5 pm5 an5 cd5 ct5), sl5⟩) (c5 : PySem.W.codeIn K cd5 "bars_log" = true) (k5 : PySem.W.keepIn K (.ref f5) = true)
    {f6 : Addr} {od6 an6 : Option Addr} {sl6 : Array (Option Value)} {oc6 kV6 dc6 pm6 cd6 ct6 : Value}
    (a6 : PySem.W.nsIn K mainGlobals "reached_from" = some (some (.ref f6))) (l6 : K.lookup f6 = some ⟨oc6, od6, .func (PySem.W.fnOf "reached_from" "reached_from" (defArgs s_reached_from) (defBody s_reached_from) (defScope s_reached_from) .none kV6 dc6 pm6 an6 cd6 ct6), sl6⟩) (c6 : PySem.W.codeIn K cd6 "reached_from" = true) (k6 : PySem.W.keepIn K (.ref f6) = true)
    {f7 : Addr} {od7 an7 : Option Addr} {sl7 : Array (Option Value)} {oc7 kV7 dc7 pm7 cd7 ct7 : Value}
    (a7 : PySem.W.nsIn K mainGlobals "told_by_log" = some (some (.ref f7))) (l7 : K.lookup f7 = some ⟨oc7, od7, .func (PySem.W.fnOf "told_by_log" "told_by_log" (defArgs s_told_by_log) (defBody s_told_by_log) (defScope s_told_by_log) .none kV7 dc7 pm7 an7 cd7 ct7), sl7⟩) (c7 : PySem.W.codeIn K cd7 "told_by_log" = true) (k7 : PySem.W.keepIn K (.ref f7) = true)
    {f8 : Addr} {od8 an8 : Option Addr} {sl8 : Array (Option Value)} {oc8 kV8 dc8 pm8 cd8 ct8 : Value}
    (a8 : PySem.W.nsIn K mainGlobals "_law_cell_at" = some (some (.ref f8))) (l8 : K.lookup f8 = some ⟨oc8, od8, .func (PySem.W.fnOf "_law_cell_at" "_law_cell_at" (defArgs s__law_cell_at) (defBody s__law_cell_at) (defScope s__law_cell_at) .none kV8 dc8 pm8 an8 cd8 ct8), sl8⟩) (c8 : PySem.W.codeIn K cd8 "_law_cell_at" = true) (k8 : PySem.W.keepIn K (.ref f8) = true)
    {f9 : Addr} {od9 an9 : Option Addr} {sl9 : Array (Option Value)} {oc9 kV9 dc9 pm9 cd9 ct9 : Value}
    (a9 : PySem.W.nsIn K mainGlobals "_law_draws" = some (some (.ref f9))) (l9 : K.lookup f9 = some ⟨oc9, od9, .func (PySem.W.fnOf "_law_draws" "_law_draws" (defArgs s__law_draws) (defBody s__law_draws) (defScope s__law_draws) .none kV9 dc9 pm9 an9 cd9 ct9), sl9⟩) (c9 : PySem.W.codeIn K cd9 "_law_draws" = true) (k9 : PySem.W.keepIn K (.ref f9) = true)
    {f10 : Addr} {od10 an10 : Option Addr} {sl10 : Array (Option Value)} {oc10 kV10 dc10 pm10 cd10 ct10 : Value}
    (a10 : PySem.W.nsIn K mainGlobals "_law_mixed" = some (some (.ref f10))) (l10 : K.lookup f10 = some ⟨oc10, od10, .func (PySem.W.fnOf "_law_mixed" "_law_mixed" (defArgs s__law_mixed) (defBody s__law_mixed) (defScope s__law_mixed) .none kV10 dc10 pm10 an10 cd10 ct10), sl10⟩) (c10 : PySem.W.codeIn K cd10 "_law_mixed" = true) (k10 : PySem.W.keepIn K (.ref f10) = true)
    {f11 : Addr} {od11 an11 : Option Addr} {sl11 : Array (Option Value)} {oc11 kV11 dc11 pm11 cd11 ct11 : Value}
    (a11 : PySem.W.nsIn K mainGlobals "_law_a_log" = some (some (.ref f11))) (l11 : K.lookup f11 = some ⟨oc11, od11, .func (PySem.W.fnOf "_law_a_log" "_law_a_log" (defArgs s__law_a_log) (defBody s__law_a_log) (defScope s__law_a_log) .none kV11 dc11 pm11 an11 cd11 ct11), sl11⟩) (c11 : PySem.W.codeIn K cd11 "_law_a_log" = true) (k11 : PySem.W.keepIn K (.ref f11) = true)
    {f12 : Addr} {od12 an12 : Option Addr} {sl12 : Array (Option Value)} {oc12 kV12 dc12 pm12 cd12 ct12 : Value}
    (a12 : PySem.W.nsIn K mainGlobals "_law_offered" = some (some (.ref f12))) (l12 : K.lookup f12 = some ⟨oc12, od12, .func (PySem.W.fnOf "_law_offered" "_law_offered" (defArgs s__law_offered) (defBody s__law_offered) (defScope s__law_offered) .none kV12 dc12 pm12 an12 cd12 ct12), sl12⟩) (c12 : PySem.W.codeIn K cd12 "_law_offered" = true) (k12 : PySem.W.keepIn K (.ref f12) = true)
    {f13 : Addr} {od13 an13 : Option Addr} {sl13 : Array (Option Value)} {oc13 kV13 dc13 pm13 cd13 ct13 : Value}
    (a13 : PySem.W.nsIn K mainGlobals "_law_explains" = some (some (.ref f13))) (l13 : K.lookup f13 = some ⟨oc13, od13, .func (PySem.W.fnOf "_law_explains" "_law_explains" (defArgs s__law_explains) (defBody s__law_explains) (defScope s__law_explains) .none kV13 dc13 pm13 an13 cd13 ct13), sl13⟩) (c13 : PySem.W.codeIn K cd13 "_law_explains" = true) (k13 : PySem.W.keepIn K (.ref f13) = true)
    {f14 : Addr} {od14 an14 : Option Addr} {sl14 : Array (Option Value)} {oc14 kV14 dc14 pm14 cd14 ct14 : Value}
    (a14 : PySem.W.nsIn K mainGlobals "_law_bars" = some (some (.ref f14))) (l14 : K.lookup f14 = some ⟨oc14, od14, .func (PySem.W.fnOf "_law_bars" "_law_bars" (defArgs s__law_bars) (defBody s__law_bars) (defScope s__law_bars) .none kV14 dc14 pm14 an14 cd14 ct14), sl14⟩) (c14 : PySem.W.codeIn K cd14 "_law_bars" = true) (k14 : PySem.W.keepIn K (.ref f14) = true)
    {f15 : Addr} {od15 an15 : Option Addr} {sl15 : Array (Option Value)} {oc15 kV15 dc15 pm15 cd15 ct15 : Value}
    (a15 : PySem.W.nsIn K mainGlobals "_law_levels_spoilt" = some (some (.ref f15))) (l15 : K.lookup f15 = some ⟨oc15, od15, .func (PySem.W.fnOf "_law_levels_spoilt" "_law_levels_spoilt" (defArgs s__law_levels_spoilt) (defBody s__law_levels_spoilt) (defScope s__law_levels_spoilt) .none kV15 dc15 pm15 an15 cd15 ct15), sl15⟩) (c15 : PySem.W.codeIn K cd15 "_law_levels_spoilt" = true) (k15 : PySem.W.keepIn K (.ref f15) = true)
    {f16 : Addr} {od16 an16 : Option Addr} {sl16 : Array (Option Value)} {oc16 kV16 dc16 pm16 cd16 ct16 : Value}
    (a16 : PySem.W.nsIn K mainGlobals "_law_round_spoilt" = some (some (.ref f16))) (l16 : K.lookup f16 = some ⟨oc16, od16, .func (PySem.W.fnOf "_law_round_spoilt" "_law_round_spoilt" (defArgs s__law_round_spoilt) (defBody s__law_round_spoilt) (defScope s__law_round_spoilt) .none kV16 dc16 pm16 an16 cd16 ct16), sl16⟩) (c16 : PySem.W.codeIn K cd16 "_law_round_spoilt" = true) (k16 : PySem.W.keepIn K (.ref f16) = true)
    {f17 : Addr} {od17 an17 : Option Addr} {sl17 : Array (Option Value)} {oc17 kV17 dc17 pm17 cd17 ct17 : Value}
    (a17 : PySem.W.nsIn K mainGlobals "law" = some (some (.ref f17))) (l17 : K.lookup f17 = some ⟨oc17, od17, .func (PySem.W.fnOf "law" "law" (defArgs s_law) (defBody s_law) (defScope s_law) .none kV17 dc17 pm17 an17 cd17 ct17), sl17⟩) (c17 : PySem.W.codeIn K cd17 "law" = true) (k17 : PySem.W.keepIn K (.ref f17) = true)
    (z0 : PySem.W.nsIn K mainGlobals "all" = some none)
    (z1 : PySem.W.nsIn K mainGlobals "any" = some none)
    (z2 : PySem.W.nsIn K mainGlobals "bool" = some none)
    (z3 : PySem.W.nsIn K mainGlobals "enumerate" = some none)
    (z4 : PySem.W.nsIn K mainGlobals "int" = some none)
    (z5 : PySem.W.nsIn K mainGlobals "isinstance" = some none)
    (z6 : PySem.W.nsIn K mainGlobals "len" = some none)
    (z7 : PySem.W.nsIn K mainGlobals "list" = some none)
    (z8 : PySem.W.nsIn K mainGlobals "min" = some none)
    (z9 : PySem.W.nsIn K mainGlobals "range" = some none)
    (z10 : PySem.W.nsIn K mainGlobals "set" = some none)
    (z11 : PySem.W.nsIn K mainGlobals "sorted" = some none)
    (z12 : PySem.W.nsIn K mainGlobals "tuple" = some none)
    (z13 : PySem.W.nsIn K mainGlobals "zip" = some none)
    (hl : ∀ ns : List Int, ns.length ≤ 63 → Q.k25_law [.sc ns] = some (.p (.bool true))) :
    ∃ fd : FuncData, (∀ (s : Shared) (v : Value), BindsTo s fd ⟨[v], []⟩ [("script", v)]) ∧ ∀ base : Heap, K.In base → base.Ns mainGlobals mg → FnOk l.prog w K mg base CX0 3 fa fd ["script"] (M.spLaw 63 K) := by
  have e := hfa.symm.trans (PySem.W.mg_of Y G a17)
  cases e
  have F0 := fun_mk (st := s_way_between) l0 c0 k0
  have F1 := fun_mk (st := s_steps_of) l1 c1 k1
  have F2 := fun_mk (st := s_things_in) l2 c2 k2
  have F3 := fun_mk (st := s_explains_log) l3 c3 k3
  have F4 := fun_mk (st := s_log_ways) l4 c4 k4
  have F5 := fun_mk (st := s_bars_log) l5 c5 k5
  have F6 := fun_mk (st := s_reached_from) l6 c6 k6
  have F7 := fun_mk (st := s_told_by_log) l7 c7 k7
  have F8 := fun_mk (st := s__law_cell_at) l8 c8 k8
  have F9 := fun_mk (st := s__law_draws) l9 c9 k9
  have F10 := fun_mk (st := s__law_mixed) l10 c10 k10
  have F11 := fun_mk (st := s__law_a_log) l11 c11 k11
  have F12 := fun_mk (st := s__law_offered) l12 c12 k12
  have F13 := fun_mk (st := s__law_explains) l13 c13 k13
  have F14 := fun_mk (st := s__law_bars) l14 c14 k14
  have F15 := fun_mk (st := s__law_levels_spoilt) l15 c15 k15
  have F16 := fun_mk (st := s__law_round_spoilt) l16 c16 k16
  have F17 := fun_mk (st := s_law) l17 c17 k17
  have b0 := F0.binds (ps := ["ways", "one", "other"]) fun _ _ _ _ _ _ us hl => match us, hl with | [_, _, _], _ => rfl
  have b1 := F1.binds (ps := ["numbers"]) fun _ _ _ _ _ _ us hl => match us, hl with | [_], _ => rfl
  have b2 := F2.binds (ps := ["log"]) fun _ _ _ _ _ _ us hl => match us, hl with | [_], _ => rfl
  have b3 := F3.binds (ps := ["log", "levels"]) fun _ _ _ _ _ _ us hl => match us, hl with | [_, _], _ => rfl
  have b4 := F4.binds (ps := ["log", "things"]) fun _ _ _ _ _ _ us hl => match us, hl with | [_, _], _ => rfl
  have b5 := F5.binds (ps := ["log", "things"]) fun _ _ _ _ _ _ us hl => match us, hl with | [_, _], _ => rfl
  have b6 := F6.binds (ps := ["steps", "one"]) fun _ _ _ _ _ _ us hl => match us, hl with | [_, _], _ => rfl
  have b7 := F7.binds (ps := ["log"]) fun _ _ _ _ _ _ us hl => match us, hl with | [_], _ => rfl
  have b8 := F8.binds (ps := ["script", "k"]) fun _ _ _ _ _ _ us hl => match us, hl with | [_, _], _ => rfl
  have b9 := F9.binds (ps := ["cell", "many", "base"]) fun _ _ _ _ _ _ us hl => match us, hl with | [_, _, _], _ => rfl
  have b10 := F10.binds (ps := ["row", "picks"]) fun _ _ _ _ _ _ us hl => match us, hl with | [_, _], _ => rfl
  have b11 := F11.binds (ps := ["script", "at", "most"]) fun _ _ _ _ _ _ us hl => match us, hl with | [_, _, _], _ => rfl
  have b12 := F12.binds (ps := ["log"]) fun _ _ _ _ _ _ us hl => match us, hl with | [_], _ => rfl
  have b13 := F13.binds (ps := ["log", "levels"]) fun _ _ _ _ _ _ us hl => match us, hl with | [_, _], _ => rfl
  have b14 := F14.binds (ps := ["log", "things"]) fun _ _ _ _ _ _ us hl => match us, hl with | [_, _], _ => rfl
  have b15 := F15.binds (ps := ["levels", "picks"]) fun _ _ _ _ _ _ us hl => match us, hl with | [_, _], _ => rfl
  have b16 := F16.binds (ps := ["things", "picks"]) fun _ _ _ _ _ _ us hl => match us, hl with | [_, _], _ => rfl
  have b17 := F17.binds (ps := ["script"]) fun _ _ _ _ _ _ us hl => match us, hl with | [_], _ => rfl
  let X : Tx K mg := {
    a_way_between := _,
    d_way_between := _,
    F_way_between := F0,
    b_way_between := b0,
    g_way_between := PySem.W.mg_of Y G a0,
    a_steps_of := _,
    d_steps_of := _,
    F_steps_of := F1,
    b_steps_of := b1,
    g_steps_of := PySem.W.mg_of Y G a1,
    a_things_in := _,
    d_things_in := _,
    F_things_in := F2,
    b_things_in := b2,
    g_things_in := PySem.W.mg_of Y G a2,
    a_explains_log := _,
    d_explains_log := _,
    F_explains_log := F3,
    b_explains_log := b3,
    g_explains_log := PySem.W.mg_of Y G a3,
    a_log_ways := _,
    d_log_ways := _,
    F_log_ways := F4,
    b_log_ways := b4,
    g_log_ways := PySem.W.mg_of Y G a4,
    a_bars_log := _,
    d_bars_log := _,
    F_bars_log := F5,
    b_bars_log := b5,
    g_bars_log := PySem.W.mg_of Y G a5,
    a_reached_from := _,
    d_reached_from := _,
    F_reached_from := F6,
    b_reached_from := b6,
    g_reached_from := PySem.W.mg_of Y G a6,
    a_told_by_log := _,
    d_told_by_log := _,
    F_told_by_log := F7,
    b_told_by_log := b7,
    g_told_by_log := PySem.W.mg_of Y G a7,
    a__law_cell_at := _,
    d__law_cell_at := _,
    F__law_cell_at := F8,
    b__law_cell_at := b8,
    g__law_cell_at := PySem.W.mg_of Y G a8,
    a__law_draws := _,
    d__law_draws := _,
    F__law_draws := F9,
    b__law_draws := b9,
    g__law_draws := PySem.W.mg_of Y G a9,
    a__law_mixed := _,
    d__law_mixed := _,
    F__law_mixed := F10,
    b__law_mixed := b10,
    g__law_mixed := PySem.W.mg_of Y G a10,
    a__law_a_log := _,
    d__law_a_log := _,
    F__law_a_log := F11,
    b__law_a_log := b11,
    g__law_a_log := PySem.W.mg_of Y G a11,
    a__law_offered := _,
    d__law_offered := _,
    F__law_offered := F12,
    b__law_offered := b12,
    g__law_offered := PySem.W.mg_of Y G a12,
    a__law_explains := _,
    d__law_explains := _,
    F__law_explains := F13,
    b__law_explains := b13,
    g__law_explains := PySem.W.mg_of Y G a13,
    a__law_bars := _,
    d__law_bars := _,
    F__law_bars := F14,
    b__law_bars := b14,
    g__law_bars := PySem.W.mg_of Y G a14,
    a__law_levels_spoilt := _,
    d__law_levels_spoilt := _,
    F__law_levels_spoilt := F15,
    b__law_levels_spoilt := b15,
    g__law_levels_spoilt := PySem.W.mg_of Y G a15,
    a__law_round_spoilt := _,
    d__law_round_spoilt := _,
    F__law_round_spoilt := F16,
    b__law_round_spoilt := b16,
    g__law_round_spoilt := PySem.W.mg_of Y G a16,
    a_law := _,
    d_law := _,
    F_law := F17,
    b_law := b17,
    g_law := PySem.W.mg_of Y G a17,
    z_all := PySem.W.mg_none_of Y G z0,
    z_any := PySem.W.mg_none_of Y G z1,
    z_bool := PySem.W.mg_none_of Y G z2,
    z_enumerate := PySem.W.mg_none_of Y G z3,
    z_int := PySem.W.mg_none_of Y G z4,
    z_isinstance := PySem.W.mg_none_of Y G z5,
    z_len := PySem.W.mg_none_of Y G z6,
    z_list := PySem.W.mg_none_of Y G z7,
    z_min := PySem.W.mg_none_of Y G z8,
    z_range := PySem.W.mg_none_of Y G z9,
    z_set := PySem.W.mg_none_of Y G z10,
    z_sorted := PySem.W.mg_none_of Y G z11,
    z_tuple := PySem.W.mg_none_of Y G z12,
    z_zip := PySem.W.mg_none_of Y G z13 }
  exact ⟨PySem.W.fnOf "law" "law" (defArgs s_law) (defBody s_law) (defScope s_law) .none kV17 dc17 pm17 an17 cd17 ct17, fun s v => .of_eq rfl, fun base _ _ => law_ok (ok_law X) hl⟩
end W
open PySem PySem.W PyProof.Rows
set_option maxHeartbeats 0 in
theorem PySem.Challenge.cw_onewish_k25_papers_of_logs_holds : PySem.Challenge.rw_onewish_k25_papers_of_logs.Holds := by
  w_on; o_law; k_head; (case hw => w_witness2)
  k_fill
  refine L2.walk_of (l := PySem.Challenge.rw_onewish_k25_papers_of_logs) (n := 63) (k := 3) (x := "script") (CX := fun _ => L2.CX0) (sp := fun w => M.spLaw 63 _) rfl (by decide) rfl ⟨rfl, by decide, by decide⟩ (fun w h Y => PySem.W.kIn_of Y) ?F (fun _ _ a ns hl _ hS => ⟨a, ns, rfl, hS, hl, fun _ => rfl⟩) (fun _ _ _ _ _ h => h)
  case F =>
    intro w mg fa h KX G hmg
    refine' W.all_mk KX G hmg ?a0 ?l0 ?c0 ?k0 ?a1 ?l1 ?c1 ?k1 ?a2 ?l2 ?c2 ?k2 ?a3 ?l3 ?c3 ?k3 ?a4 ?l4 ?c4 ?k4 ?a5 ?l5 ?c5 ?k5 ?a6 ?l6 ?c6 ?k6 ?a7 ?l7 ?c7 ?k7 ?a8 ?l8 ?c8 ?k8 ?a9 ?l9 ?c9 ?k9 ?a10 ?l10 ?c10 ?k10 ?a11 ?l11 ?c11 ?k11 ?a12 ?l12 ?c12 ?k12 ?a13 ?l13 ?c13 ?k13 ?a14 ?l14 ?c14 ?k14 ?a15 ?l15 ?c15 ?k15 ?a16 ?l16 ?c16 ?k16 ?a17 ?l17 ?c17 ?k17 ?z0 ?z1 ?z2 ?z3 ?z4 ?z5 ?z6 ?z7 ?z8 ?z9 ?z10 ?z11 ?z12 ?z13 W.law_true
    (case a0 => k_is)
    (case l0 => k_is)
    (case c0 => k_is)
    (case k0 => k_is)
    (case a1 => k_is)
    (case l1 => k_is)
    (case c1 => k_is)
    (case k1 => k_is)
    (case a2 => k_is)
    (case l2 => k_is)
    (case c2 => k_is)
    (case k2 => k_is)
    (case a3 => k_is)
    (case l3 => k_is)
    (case c3 => k_is)
    (case k3 => k_is)
    (case a4 => k_is)
    (case l4 => k_is)
    (case c4 => k_is)
    (case k4 => k_is)
    (case a5 => k_is)
    (case l5 => k_is)
    (case c5 => k_is)
    (case k5 => k_is)
    (case a6 => k_is)
    (case l6 => k_is)
    (case c6 => k_is)
    (case k6 => k_is)
    (case a7 => k_is)
    (case l7 => k_is)
    (case c7 => k_is)
    (case k7 => k_is)
    (case a8 => k_is)
    (case l8 => k_is)
    (case c8 => k_is)
    (case k8 => k_is)
    (case a9 => k_is)
    (case l9 => k_is)
    (case c9 => k_is)
    (case k9 => k_is)
    (case a10 => k_is)
    (case l10 => k_is)
    (case c10 => k_is)
    (case k10 => k_is)
    (case a11 => k_is)
    (case l11 => k_is)
    (case c11 => k_is)
    (case k11 => k_is)
    (case a12 => k_is)
    (case l12 => k_is)
    (case c12 => k_is)
    (case k12 => k_is)
    (case a13 => k_is)
    (case l13 => k_is)
    (case c13 => k_is)
    (case k13 => k_is)
    (case a14 => k_is)
    (case l14 => k_is)
    (case c14 => k_is)
    (case k14 => k_is)
    (case a15 => k_is)
    (case l15 => k_is)
    (case c15 => k_is)
    (case k15 => k_is)
    (case a16 => k_is)
    (case l16 => k_is)
    (case c16 => k_is)
    (case k16 => k_is)
    (case a17 => k_is)
    (case l17 => k_is)
    (case c17 => k_is)
    (case k17 => k_is)
    (case z0 => k_is)
    (case z1 => k_is)
    (case z2 => k_is)
    (case z3 => k_is)
    (case z4 => k_is)
    (case z5 => k_is)
    (case z6 => k_is)
    (case z7 => k_is)
    (case z8 => k_is)
    (case z9 => k_is)
    (case z10 => k_is)
    (case z11 => k_is)
    (case z12 => k_is)
    (case z13 => k_is)

