import PyProof.Rows.All
import HandS.ForMost
import HandS.Wide
import HandS.Conv
import HandS.Zip
import HandS.Deep
import HandS.Style
import HandS.TupAny
import HandS.TupMul
import HandS.Flow
import HandS.More
import HandS.SortInts
import HandS.IsInst
import KE.DataMinMax
import KE.KSortedM
import HandS.SetFor
import KE.LtData
import KE.GoesEnum
import HandS.WordsExc
import HandS.ExcCtx
import HandS.HotCalls
import KE.KExcIs
import HandS.Strs
import HandS.TryOnly
import KE.KDictZip
import PySem.Challenge.RW_onewish_k32_whole_even_and_scaled_turned
set_option Elab.async false
set_option linter.all false
set_option maxRecDepth 100000
namespace M
open PySem PySem.Spec PyProof.Rows L2

abbrev D := PyData
def keyD : Key → D
  | .inl i => .int i
  | .inr x => .str x

mutual
inductive Rp (K : PySem.W.Frag) (G : Hp) : V → D → Prop
  | non : Rp K G .non .none
  | bl (b : Bool) : Rp K G (.bl b) (.bool b)
  | int (i : Int) : Rp K G (.int i) (.int i)
  | str (x : Str) : Rp K G (.str x) (.str x)
  | lst {a : Addr} {xs : List V} {ds : List D} : G a = some (.lst xs) → Rps K G xs ds → Rp K G (.ref a) (.list ds)
  | tup {a : Addr} {xs : List V} {ds : List D} : SqT K G a xs → Rps K G xs ds → Rp K G (.ref a) (.tuple ds)
  | dct {a : Addr} {kvs : List (Key × V)} {ds : List (D × D)} : G a = some (.dK kvs) → Rpk K G kvs ds → Rp K G (.ref a) (.dict ds)
inductive Rps (K : PySem.W.Frag) (G : Hp) : List V → List D → Prop
  | nil : Rps K G [] []
  | cons {v : V} {vs : List V} {d : D} {ds : List D} : Rp K G v d → Rps K G vs ds → Rps K G (v :: vs) (d :: ds)
inductive Rpk (K : PySem.W.Frag) (G : Hp) : List (Key × V) → List (D × D) → Prop
  | nil : Rpk K G [] []
  | cons {k : Key} {v : V} {r : List (Key × V)} {d : D} {ds : List (D × D)} : Rp K G v d → Rpk K G r ds → Rpk K G ((k, v) :: r) ((keyD k, d) :: ds)
end
theorem Same.seqT {K : PySem.W.Frag} {H H' : Hp} {a : Addr} {xs : List V} (e : Same H H') (h : SqT K H a xs) : SqT K H' a xs := by
  rcases h with (h | ⟨o, h⟩) | h
  · exact .inl (.inl (e _ _ h))
  · exact .inl (.inr ⟨o, e _ _ h⟩)
  · exact .inr h

mutual
theorem Rp.mono {K : PySem.W.Frag} {G G' : Hp} (s : Same G G') : ∀ {v : V} {d : D}, Rp K G v d → Rp K G' v d
  | _, _, .non => .non
  | _, _, .bl b => .bl b
  | _, _, .int i => .int i
  | _, _, .str x => .str x
  | _, _, .lst h r => .lst (s _ _ h) (Rps.mono s r)
  | _, _, .tup h r => .tup (Same.seqT s h) (Rps.mono s r)
  | _, _, .dct h r => .dct (s _ _ h) (Rpk.mono s r)
theorem Rps.mono {K : PySem.W.Frag} {G G' : Hp} (s : Same G G') : ∀ {v : List V} {d : List D}, Rps K G v d → Rps K G' v d
  | _, _, .nil => .nil
  | _, _, .cons h r => .cons (Rp.mono s h) (Rps.mono s r)
theorem Rpk.mono {K : PySem.W.Frag} {G G' : Hp} (s : Same G G') : ∀ {v : List (Key × V)} {d : List (D × D)}, Rpk K G v d → Rpk K G' v d
  | _, _, .nil => .nil
  | _, _, .cons h r => .cons (Rp.mono s h) (Rpk.mono s r)
end
section
variable {K : PySem.W.Frag} {G : Hp}
theorem Rps.length : ∀ {vs : List V} {ds : List D}, Rps K G vs ds → vs.length = ds.length
  | _, _, .nil => rfl
  | _, _, .cons _ r => by simp [Rps.length r]
theorem Rps.get : ∀ {vs : List V} {ds : List D} {i : Nat} {d : D}, Rps K G vs ds → ds[i]? = some d → ∃ v, vs[i]? = some v ∧ Rp K G v d
  | _, _, _, _, .nil, e => by simp at e
  | _, _, 0, _, .cons h _, e => by simp at e; subst e; exact ⟨_, rfl, h⟩
  | _, _, i + 1, d, .cons _ r, e => by
    obtain ⟨v, h1, h2⟩ := Rps.get (i := i) (d := d) r (by simpa using e)
    exact ⟨v, by simpa using h1, h2⟩
theorem Rps.append : ∀ {xs ys : List V} {us ws : List D}, Rps K G xs us → Rps K G ys ws → Rps K G (xs ++ ys) (us ++ ws)
  | _, _, _, _, .nil, s => s
  | _, _, _, _, .cons r t, s => .cons r (Rps.append t s)
theorem Rps.take : ∀ {xs : List V} {us : List D} (n : Nat), Rps K G xs us → Rps K G (xs.take n) (us.take n)
  | _, _, 0, _ => .nil
  | _, _, _ + 1, .nil => .nil
  | _, _, n + 1, .cons r t => .cons r (Rps.take n t)
theorem Rps.drop : ∀ {xs : List V} {us : List D} (n : Nat), Rps K G xs us → Rps K G (xs.drop n) (us.drop n)
  | _, _, 0, r => r
  | _, _, _ + 1, .nil => .nil
  | _, _, n + 1, .cons _ t => Rps.drop n t
theorem Rps.reverse : ∀ {xs : List V} {us : List D}, Rps K G xs us → Rps K G xs.reverse us.reverse
  | _, _, .nil => .nil
  | _, _, .cons r t => by simp only [List.reverse_cons]; exact (Rps.reverse t).append (.cons r .nil)
theorem Rps.rep {xs : List V} {us : List D} (r : Rps K G xs us) : ∀ n : Nat, Rps K G (List.replicate n xs).flatten (List.replicate n us).flatten
  | 0 => .nil
  | n + 1 => by
    rw [List.replicate_succ, List.replicate_succ, List.flatten_cons, List.flatten_cons]
    exact r.append (r.rep n)
theorem Rps.one {v : V} {d : D} (h : Rp K G v d) : Rps K G [v] [d] := .cons h .nil
theorem Rps.set {v : V} {d : D} (h : Rp K G v d) : ∀ {xs : List V} {us : List D} (i : Nat), Rps K G xs us → Rps K G (xs.set i v) (us.set i d)
  | _, _, _, .nil => .nil
  | _, _, 0, .cons _ t => .cons h t
  | _, _, i + 1, .cons r t => .cons r (Rps.set h i t)
theorem Rps.ints : ∀ {vs : List V} {ns : List Int}, Rps K G vs (ns.map PyData.int) → vs = ns.map V.int
  | [], [], _ => rfl
  | _, _ :: _, .cons (.int i) r => by simp only [List.map_cons]; rw [Rps.ints r]
  | _ :: _, [], h => nomatch h
theorem Rps.of_ints : ∀ (ns : List Int), Rps K G (ns.map V.int) (ns.map PyData.int)
  | [] => .nil
  | _ :: r => .cons (.int _) (Rps.of_ints r)
theorem Rps.bls : ∀ {vs : List V} {ns : List Bool}, Rps K G vs (ns.map PyData.bool) → vs = ns.map V.bl
  | [], [], _ => rfl
  | _, _ :: _, .cons (.bl i) r => by simp only [List.map_cons]; rw [Rps.bls r]
  | _ :: _, [], h => nomatch h
end

inductive T where
  | p (d : D)
  | sc (ns : List Int)
  | ml (ts : List T)
  | tp (ts : List T)
  | md (kvs : List (Key × D))
  | mk (a : Addr) (od : Obj) (kvs : List (Key × V)) (ds : List (Key × D))
  | ob (n : Str) (fs : List (Str × T))
  | fo (n : Str) (fs : List (Str × D))
  | rf (a : Addr) (t : T)
  | io (t : T) (us : List T)
/-- without the address that is told of it -/
def T.strip : T → T
  | .rf _ t => t.strip
  | t => t
/-- u in t's place, told of the same address -/
def T.wrap : T → T → T
  | .rf a t, u => .rf a (t.wrap u)
  | _, u => u
@[simp] theorem strip_p {d : D} : (T.p d).strip = .p d := rfl
@[simp] theorem strip_sc {ns : List Int} : (T.sc ns).strip = .sc ns := rfl
@[simp] theorem strip_ml {ts : List T} : (T.ml ts).strip = .ml ts := rfl
@[simp] theorem strip_tp {ts : List T} : (T.tp ts).strip = .tp ts := rfl
@[simp] theorem strip_md {ds : List (Key × D)} : (T.md ds).strip = .md ds := rfl
@[simp] theorem strip_mk {a : Addr} {od : Obj} {kvs : List (Key × V)} {ds : List (Key × D)} : (T.mk a od kvs ds).strip = .mk a od kvs ds := rfl
@[simp] theorem strip_ob {C : Str} {fs : List (Str × T)} : (T.ob C fs).strip = .ob C fs := rfl
@[simp] theorem strip_fo {C : Str} {fs : List (Str × D)} : (T.fo C fs).strip = .fo C fs := rfl
@[simp] theorem strip_io {t : T} {us : List T} : (T.io t us).strip = .io t us := rfl
@[simp] theorem strip_rf {a : Addr} {t : T} : (T.rf a t).strip = t.strip := rfl
@[simp] theorem wrap_p {d : D} {u : T} : (T.p d).wrap u = u := rfl
@[simp] theorem wrap_ml {ts : List T} {u : T} : (T.ml ts).wrap u = u := rfl
@[simp] theorem wrap_tp {ts : List T} {u : T} : (T.tp ts).wrap u = u := rfl
@[simp] theorem wrap_md {ds : List (Key × D)} {u : T} : (T.md ds).wrap u = u := rfl
@[simp] theorem wrap_mk {a : Addr} {od : Obj} {kvs : List (Key × V)} {ds : List (Key × D)} {u : T} : (T.mk a od kvs ds).wrap u = u := rfl
@[simp] theorem wrap_ob {C : Str} {fs : List (Str × T)} {u : T} : (T.ob C fs).wrap u = u := rfl
@[simp] theorem wrap_fo {C : Str} {fs : List (Str × D)} {u : T} : (T.fo C fs).wrap u = u := rfl
@[simp] theorem wrap_io {t : T} {us : List T} {u : T} : (T.io t us).wrap u = u := rfl
@[simp] theorem wrap_rf {a : Addr} {t u : T} : (T.rf a t).wrap u = .rf a (t.wrap u) := rfl

/-- the class of a name -/
def clsAt (K : PySem.W.Frag) (n : Str) (C : Addr) : Prop := PySem.W.nsIn K mainGlobals n = some (some (.ref C))
theorem clsAt.uniq {K : PySem.W.Frag} {n : Str} {C D : Addr} (h : clsAt K n C) (h' : clsAt K n D) : C = D := by
  unfold clsAt at h h'
  rw [h] at h'
  simpa using h'
/-- frozen fields -/
inductive FR0 (K : PySem.W.Frag) (G : Hp) : List (Str × V) → List (Str × D) → Prop
  | nil : FR0 K G [] []
  | cons {x : Str} {v : V} {r : List (Str × V)} {d : D} {ds : List (Str × D)} : Rp K G v d → FR0 K G r ds → FR0 K G ((x, v) :: r) ((x, d) :: ds)
theorem FR0.mono {K : PySem.W.Frag} {G G' : Hp} (s : Same G G') : ∀ {v : List (Str × V)} {d : List (Str × D)}, FR0 K G v d → FR0 K G' v d
  | _, _, .nil => .nil
  | _, _, .cons h r => .cons (Rp.mono s h) (FR0.mono s r)
theorem FR0.none {K : PySem.W.Frag} {G : Hp} {x : Str} : ∀ {vs : List (Str × V)} {ds : List (Str × D)}, FR0 K G vs ds → ds.lookup x = none → vs.lookup x = none
  | _, _, .nil, _ => rfl
  | _, _, .cons (x := y) h r, e => by
    rw [List.lookup_cons] at e ⊢
    split at e
    · cases e
    · exact FR0.none r e
inductive KR (K : PySem.W.Frag) (G : Hp) : List (Key × V) → List (Key × D) → Prop
  | nil : KR K G [] []
  | cons {k : Key} {v : V} {r : List (Key × V)} {d : D} {ds : List (Key × D)} : Rp K G v d → KR K G r ds → KR K G ((k, v) :: r) ((k, d) :: ds)
theorem KR.mono {K : PySem.W.Frag} {G G' : Hp} (s : Same G G') : ∀ {v : List (Key × V)} {d : List (Key × D)}, KR K G v d → KR K G' v d
  | _, _, .nil => .nil
  | _, _, .cons h r => .cons (Rp.mono s h) (KR.mono s r)
theorem KR.rpk {K : PySem.W.Frag} {G : Hp} : ∀ {v : List (Key × V)} {d : List (Key × D)}, KR K G v d → Rpk K G v (d.map fun p => (keyD p.1, p.2))
  | _, _, .nil => .nil
  | _, _, .cons h r => .cons h (KR.rpk r)

mutual
inductive TR (K : PySem.W.Frag) (G H : Hp) : T → V → List Addr → Prop
  | p {d : D} {v : V} : Rp K G v d → TR K G H (.p d) v []
  | sc {ns : List Int} {a : Addr} : SqL K G a (ns.map V.int) → TR K G H (.sc ns) (.ref a) []
  | ml {ts : List T} {a : Addr} {vs : List V} {F : List Addr} : H a = some (.lst vs) → TRs K G H ts vs F → TR K G H (.ml ts) (.ref a) (a :: F)
  | tp {ts : List T} {a : Addr} {vs : List V} {F : List Addr} : H a = some (.tup vs) → TRs K G H ts vs F → TR K G H (.tp ts) (.ref a) (a :: F)
  | md {ds : List (Key × D)} {a : Addr} {kvs : List (Key × V)} : H a = some (.dK kvs) → KR K G kvs ds → TR K G H (.md ds) (.ref a) [a]
  | mk {ds : List (Key × D)} {a : Addr} {od : Obj} {kvs : List (Key × V)} : H a = some (.frz od (.dK kvs)) → KR K G kvs ds → TR K G H (.mk a od kvs ds) (.ref a) [a]
  | ob {n : Str} {C : Addr} {fs : List (Str × T)} {a dx : Addr} {vfs : List (Str × V)} {F : List Addr} : clsAt K n C → H a = some (.ins C dx vfs) → H dx = some (.own a) → TRf K G H fs vfs F → TR K G H (.ob n fs) (.ref a) (a :: dx :: F)
  | fo {n : Str} {C : Addr} {fs : List (Str × D)} {a dx : Addr} {vfs : List (Str × V)} : clsAt K n C → G a = some (.ins C dx vfs) → FR0 K G vfs fs → TR K G H (.fo n fs) (.ref a) []
  | rf {a : Addr} {t : T} {F : List Addr} : TR K G H t (.ref a) F → TR K G H (.rf a t) (.ref a) F
  | io {t : T} {us : List T} {v : V} {vs : List V} {F F' : List Addr} : TR K G H t v F → TRs K G H us vs F' → TR K G H (.io t us) v (F ++ F')
inductive TRs (K : PySem.W.Frag) (G H : Hp) : List T → List V → List Addr → Prop
  | nil : TRs K G H [] [] []
  | cons {t : T} {v : V} {F F' : List Addr} {ts : List T} {vs : List V} : TR K G H t v F → TRs K G H ts vs F' → TRs K G H (t :: ts) (v :: vs) (F ++ F')
inductive TRf (K : PySem.W.Frag) (G H : Hp) : List (Str × T) → List (Str × V) → List Addr → Prop
  | nil : TRf K G H [] [] []
  | cons {x : Str} {t : T} {v : V} {F F' : List Addr} {ts : List (Str × T)} {vs : List (Str × V)} : TR K G H t v F → TRf K G H ts vs F' → TRf K G H ((x, t) :: ts) ((x, v) :: vs) (F ++ F')
end
/-- the objects at F stand -/
def Keep (F : List Addr) (H H' : Hp) : Prop := ∀ a ∈ F, ∀ o, H a = some o → H' a = some o
theorem Keep.of {F : List Addr} {H H' : Hp} (s : Same H H') : Keep F H H' := fun a _ o e => s a o e
theorem Keep.sub {F F' : List Addr} {H H' : Hp} (k : Keep F H H') (h : ∀ a ∈ F', a ∈ F) : Keep F' H H' := fun a ha o e => k a (h a ha) o e

mutual
theorem TR.keep {K : PySem.W.Frag} {G G' H H' : Hp} (s : Same G G') : ∀ {t : T} {v : V} {F : List Addr}, TR K G H t v F → Keep F H H' → TR K G' H' t v F
  | _, _, _, .p h, _ => .p (h.mono s)
  | _, _, _, .sc h, _ => .sc (s.seq h)
  | _, _, _, .ml h r, k => .ml (k _ List.mem_cons_self _ h) (TRs.keep s r (k.sub fun _ q => List.mem_cons_of_mem _ q))
  | _, _, _, .tp h r, k => .tp (k _ List.mem_cons_self _ h) (TRs.keep s r (k.sub fun _ q => List.mem_cons_of_mem _ q))
  | _, _, _, .md h r, k => .md (k _ List.mem_cons_self _ h) (r.mono s)
  | _, _, _, .mk h r, k => .mk (k _ List.mem_cons_self _ h) (r.mono s)
  | _, _, _, .fo hc h r, k => .fo hc (s _ _ h) (r.mono s)
  | _, _, _, .ob hc h h2 r, k => .ob hc (k _ List.mem_cons_self _ h) (k _ (List.mem_cons_of_mem _ List.mem_cons_self) _ h2) (TRf.keep s r (k.sub fun _ q => List.mem_cons_of_mem _ (List.mem_cons_of_mem _ q)))
  | _, _, _, .rf r, k => .rf (TR.keep s r k)
  | _, _, _, .io h r, k => .io (TR.keep s h (k.sub fun _ q => List.mem_append_left _ q)) (TRs.keep s r (k.sub fun _ q => List.mem_append_right _ q))
theorem TRs.keep {K : PySem.W.Frag} {G G' H H' : Hp} (s : Same G G') : ∀ {t : List T} {v : List V} {F : List Addr}, TRs K G H t v F → Keep F H H' → TRs K G' H' t v F
  | _, _, _, .nil, _ => .nil
  | _, _, _, .cons h r, k => .cons (TR.keep s h (k.sub fun _ q => List.mem_append_left _ q)) (TRs.keep s r (k.sub fun _ q => List.mem_append_right _ q))
theorem TRf.keep {K : PySem.W.Frag} {G G' H H' : Hp} (s : Same G G') : ∀ {t : List (Str × T)} {v : List (Str × V)} {F : List Addr}, TRf K G H t v F → Keep F H H' → TRf K G' H' t v F
  | _, _, _, .nil, _ => .nil
  | _, _, _, .cons h r, k => .cons (TR.keep s h (k.sub fun _ q => List.mem_append_left _ q)) (TRf.keep s r (k.sub fun _ q => List.mem_append_right _ q))
end
mutual
/-- a tree as data -/
def T.snap : T → Option D
  | .p d => some d
  | .sc _ => none
  | .ml ts => (snaps ts).map PyData.list
  | .tp ts => (snaps ts).map PyData.tuple
  | .md kvs => some (.dict (kvs.map fun p => (keyD p.1, p.2)))
  | .mk _ _ _ _ => none
  | .ob _ _ => none
  | .fo _ _ => none
  | .rf _ t => T.snap t
  | .io _ _ => none
def snaps : List T → Option (List D)
  | [] => some []
  | t :: r => (T.snap t).bind fun d => (snaps r).map fun ds => d :: ds
end
theorem snaps_p : ∀ ds : List D, snaps (ds.map T.p) = some ds
  | [] => by simp [snaps]
  | d :: r => by simp [snaps, T.snap, snaps_p r]

mutual
/-- a tree read as data over a heap that has what it leans on -/
theorem TR.data {K : PySem.W.Frag} {G H G' : Hp} (s : Same G G') : ∀ {t : T} {v : V} {F : List Addr} {d : D}, TR K G H t v F → Keep F H G' → t.snap = some d → Rp K G' v d
  | _, _, _, _, .p h, _, e => by
    simp only [T.snap, Option.some.injEq] at e; subst e; exact h.mono s
  | _, _, _, _, .sc _, _, e => by simp [T.snap] at e
  | _, _, _, _, .ml (ts := ts) h r, k, e => by
    simp only [T.snap, Option.map_eq_some_iff] at e
    obtain ⟨ds, e1, rfl⟩ := e
    exact .lst (k _ List.mem_cons_self _ h) (TRs.data s r (k.sub fun _ q => List.mem_cons_of_mem _ q) e1)
  | _, _, _, _, .tp (ts := ts) h r, k, e => by
    simp only [T.snap, Option.map_eq_some_iff] at e
    obtain ⟨ds, e1, rfl⟩ := e
    exact .tup (.inl (.inl (k _ List.mem_cons_self _ h))) (TRs.data s r (k.sub fun _ q => List.mem_cons_of_mem _ q) e1)
  | _, _, _, _, .md h r, k, e => by
    simp only [T.snap, Option.some.injEq] at e; subst e
    exact .dct (k _ List.mem_cons_self _ h) (r.mono s).rpk
  | _, _, _, _, .mk _ _, _, e => by simp [T.snap] at e
  | _, _, _, _, .ob _ _ _ _, _, e => by simp [T.snap] at e
  | _, _, _, _, .fo _ _ _, _, e => by simp [T.snap] at e
  | _, _, _, _, .rf r, k, e => TR.data s r k (by simpa [T.snap] using e)
  | _, _, _, _, .io _ _, _, e => by simp [T.snap] at e
theorem TRs.data {K : PySem.W.Frag} {G H G' : Hp} (s : Same G G') : ∀ {t : List T} {v : List V} {F : List Addr} {d : List D}, TRs K G H t v F → Keep F H G' → snaps t = some d → Rps K G' v d
  | _, _, _, _, .nil, _, e => by simp [snaps] at e; subst e; exact .nil
  | _, _, _, _, .cons h r, k, e => by
    simp only [snaps, Option.bind_eq_some_iff, Option.map_eq_some_iff] at e
    obtain ⟨d, e1, ds, e2, rfl⟩ := e
    exact .cons (TR.data s h (k.sub fun _ q => List.mem_append_left _ q) e1) (TRs.data s r (k.sub fun _ q => List.mem_append_right _ q) e2)
end
/-- .. as it stands now -/
theorem TR.live {K : PySem.W.Frag} {G H : Hp} {t : T} {v : V} {F : List Addr} {d : D} (r : TR K G H t v F) (s : Same G H) (e : t.snap = some d) : Rp K H v d := r.data s (Keep.of (Same.refl H)) e

theorem TR.strip {K : PySem.W.Frag} {G H : Hp} : ∀ {t : T} {v : V} {F : List Addr}, TR K G H t v F → TR K G H t.strip v F
  | _, _, _, .p h => .p h
  | _, _, _, .sc h => .sc h
  | _, _, _, .ml h r => .ml h r
  | _, _, _, .tp h r => .tp h r
  | _, _, _, .md h r => .md h r
  | _, _, _, .mk h r => .mk h r
  | _, _, _, .ob hc h h2 r => .ob hc h h2 r
  | _, _, _, .fo hc h r => .fo hc h r
  | _, _, _, .rf r => r.strip
  | _, _, _, .io h r => .io h r
theorem TR.wrap {K : PySem.W.Frag} {G H G' H' : Hp} {u : T} {F' : List Addr} : ∀ {t : T} {v : V} {F : List Addr}, TR K G H t v F → TR K G' H' u v F' → TR K G' H' (t.wrap u) v F'
  | _, _, _, .p h, q => q
  | _, _, _, .sc h, q => q
  | _, _, _, .ml h r, q => q
  | _, _, _, .tp h r, q => q
  | _, _, _, .md h r, q => q
  | _, _, _, .mk h r, q => q
  | _, _, _, .ob hc h h2 r, q => q
  | _, _, _, .fo hc h r, q => q
  | _, _, _, .rf r, q => .rf (r.wrap q)
  | _, _, _, .io h r, q => q
theorem TR.pure {K : PySem.W.Frag} {G H : Hp} {d : D} {v : V} {F : List Addr} (r : TR K G H (.p d) v F) : Rp K G v d := by
  cases r with
  | p h => exact h
theorem TR.pnil {K : PySem.W.Frag} {G H : Hp} {d : D} {v : V} {F : List Addr} (r : TR K G H (.p d) v F) : F = [] := by
  cases r with
  | p h => rfl
theorem TRs.pures {K : PySem.W.Frag} {G H : Hp} : ∀ {ds : List D} {vs : List V} {F : List Addr}, TRs K G H (ds.map T.p) vs F → Rps K G vs ds ∧ F = []
  | [], _, _, .nil => ⟨.nil, rfl⟩
  | _ :: r, _, _, .cons h t => by
    obtain ⟨h1, h2⟩ := TRs.pures (ds := r) t
    cases h with
    | p h => exact ⟨.cons h h1, by rw [h2]; rfl⟩
theorem TRs.of_pures {K : PySem.W.Frag} {G H : Hp} : ∀ {ds : List D} {vs : List V}, Rps K G vs ds → TRs K G H (ds.map T.p) vs []
  | _, _, .nil => .nil
  | _, _, .cons h r => by
    have q := TRs.cons (TR.p (H := H) h) (TRs.of_pures (H := H) r)
    exact q

abbrev En := List (Option T)
inductive ES (K : PySem.W.Frag) (G H : Hp) : En → L2.St → List Addr → Prop
  | nil : ES K G H [] [] []
  | no {env : En} {σ : L2.St} {F : List Addr} {o : Option V} : ES K G H env σ F → ES K G H (none :: env) (o :: σ) F
  | so {env : En} {σ : L2.St} {F F' : List Addr} {t : T} {v : V} : TR K G H t v F → ES K G H env σ F' → ES K G H (some t :: env) (some v :: σ) (F ++ F')

section
variable {K : PySem.W.Frag} {G G' H H' : Hp}
theorem ES.keep (s : Same G G') : ∀ {env : En} {σ : L2.St} {F : List Addr}, ES K G H env σ F → Keep F H H' → ES K G' H' env σ F
  | _, _, _, .nil, _ => .nil
  | _, _, _, .no r, k => .no (ES.keep s r k)
  | _, _, _, .so h r, k => .so (h.keep s (k.sub fun _ q => List.mem_append_left _ q)) (ES.keep s r (k.sub fun _ q => List.mem_append_right _ q))
/-- slot i and the rest -/
theorem ES.split : ∀ {env : En} {σ : L2.St} {F : List Addr} {i : Nat} {t : T}, ES K G H env σ F → env[i]? = some (some t) →
    ∃ v F1 Fa Fb, σ[i]? = some (some v) ∧ TR K G H t v F1 ∧ F = Fa ++ (F1 ++ Fb) ∧
      (∀ G' H' t' v' F1', Same G G' → Keep (Fa ++ Fb) H H' → TR K G' H' t' v' F1' → ES K G' H' (env.set i (some t')) (σ.set i (some v')) (Fa ++ (F1' ++ Fb))) ∧
      (∀ G' H' t' F1', Same G G' → Keep (Fa ++ Fb) H H' → TR K G' H' t' v F1' → ES K G' H' (env.set i (some t')) σ (Fa ++ (F1' ++ Fb))) ∧
      (∀ G' H', Same G G' → Keep (Fa ++ Fb) H H' → ES K G' H' (env.set i none) σ (Fa ++ Fb))
  | _, _, _, 0, t, .so (F := F1) (F' := F2) h r, e => by
    simp only [List.getElem?_cons_zero, Option.some.injEq] at e
    subst e
    refine ⟨_, F1, [], F2, rfl, h, rfl, fun G' H' t' v' F1' s k q => ?_, fun G' H' t' F1' s k q => ?_, fun G' H' s k => ?_⟩
    · rw [List.nil_append]; exact .so q (r.keep s k)
    · rw [List.nil_append]; exact .so q (r.keep s k)
    · exact .no (r.keep s k)
  | _, _, _, 0, t, .no r, e => by simp at e
  | _, _, _, i + 1, t, .no r, e => by
    obtain ⟨v, F1, Fa, Fb, h1, h2, h3, h4, h5, h6⟩ := ES.split (i := i) (t := t) r (by simpa using e)
    exact ⟨v, F1, Fa, Fb, by simpa using h1, h2, h3, fun G' H' t' v' F1' s k q => .no (h4 G' H' t' v' F1' s k q), fun G' H' t' F1' s k q => .no (h5 G' H' t' F1' s k q), fun G' H' s k => .no (h6 G' H' s k)⟩
  | _, _, _, i + 1, t, .so (F := F0) h r, e => by
    obtain ⟨v, F1, Fa, Fb, h1, h2, h3, h4, h5, h6⟩ := ES.split (i := i) (t := t) r (by simpa using e)
    have kA : ∀ {H' : Hp}, Keep (F0 ++ Fa ++ Fb) H H' → Keep F0 H H' ∧ Keep (Fa ++ Fb) H H' := fun k =>
      ⟨k.sub fun _ q => List.mem_append_left _ (List.mem_append_left _ q), k.sub fun _ q => by rw [List.append_assoc]; exact List.mem_append_right _ q⟩
    refine ⟨v, F1, F0 ++ Fa, Fb, by simpa using h1, h2, by rw [h3, List.append_assoc], fun G' H' t' v' F1' s k q => ?_, fun G' H' t' F1' s k q => ?_, fun G' H' s k => ?_⟩
    · rw [List.append_assoc]
      exact .so (h.keep s (kA k).1) (h4 G' H' t' v' F1' s (kA k).2 q)
    · rw [List.append_assoc]
      exact .so (h.keep s (kA k).1) (h5 G' H' t' F1' s (kA k).2 q)
    · rw [List.append_assoc]
      exact .so (h.keep s (kA k).1) (h6 G' H' s (kA k).2)
/-- a slot is given a new tree: the old one is forgotten -/
theorem ES.put {t : T} {v : V} {F1 : List Addr} (q : TR K G H t v F1) : ∀ {env : En} {σ : L2.St} {F : List Addr} (i : Nat), ES K G H env σ F →
    ∃ F', ES K G H (env.set i (some t)) (σ.set i (some v)) F' ∧ ((∀ a ∈ F', a ∈ F1 ∨ a ∈ F)) ∧ (F.Nodup → F1.Nodup → (∀ a ∈ F1, a ∉ F) → F'.Nodup)
  | _, _, _, _, .nil => ⟨[], .nil, fun _ z => .inr z, fun h _ _ => h⟩
  | _, _, _, 0, .no r => ⟨_, .so q r, fun a h => List.mem_append.mp h, fun h1 h2 h3 => List.nodup_append.mpr ⟨h2, h1, fun a ha b hb e => h3 a ha (e ▸ hb)⟩⟩
  | _, _, _, 0, .so h r => ⟨_, .so q r, fun a h => (List.mem_append.mp h).imp_right fun z => List.mem_append_right _ z, fun h1 h2 h3 =>
      List.nodup_append.mpr ⟨h2, (List.nodup_append.mp h1).2.1, fun a ha b hb e => h3 a ha (e ▸ List.mem_append_right _ hb)⟩⟩
  | _, _, _, i + 1, .no r => by
    obtain ⟨F', h1, h2, h3⟩ := ES.put q i r
    exact ⟨F', .no h1, h2, h3⟩
  | _, _, _, i + 1, .so (F := F0) (F' := Fr) h r => by
    obtain ⟨F', h1, h2, h3⟩ := ES.put q i r
    refine ⟨F0 ++ F', .so h h1, fun a ha => ?_, fun n1 n2 n3 => ?_⟩
    · rcases List.mem_append.mp ha with z | z
      · exact .inr (List.mem_append_left _ z)
      · exact (h2 a z).imp_right fun z => List.mem_append_right _ z
    · obtain ⟨m1, m2, m3⟩ := List.nodup_append.mp n1
      refine List.nodup_append.mpr ⟨m1, h3 m2 n2 fun a ha z => n3 a ha (List.mem_append_right _ z), fun a ha b hb e => ?_⟩
      subst e
      rcases h2 a hb with z | z
      · exact n3 a z (List.mem_append_left _ ha)
      · exact m3 a ha a z rfl
theorem ES.length : ∀ {env : En} {σ : L2.St} {F : List Addr}, ES K G H env σ F → env.length = σ.length
  | _, _, _, .nil => rfl
  | _, _, _, .no r => by simp [ES.length r]
  | _, _, _, .so _ r => by simp [ES.length r]
/-- a slot forgotten (its value or not) -/
theorem ES.drop : ∀ {env : En} {σ : L2.St} {F : List Addr} (i : Nat) (o : Option V), ES K G H env σ F → ∃ F', ES K G H (env.set i none) (σ.set i o) F' ∧ F'.Sublist F
  | _, _, _, _, _, .nil => ⟨[], .nil, .slnil⟩
  | _, _, _, 0, _, .no r => ⟨_, .no r, List.Sublist.refl _⟩
  | _, _, _, 0, _, .so h r => ⟨_, .no r, List.sublist_append_right _ _⟩
  | _, _, _, i + 1, o, .no r => by
    obtain ⟨F', h1, h2⟩ := ES.drop i o r
    exact ⟨F', .no h1, h2⟩
  | _, _, _, i + 1, o, .so h r => by
    obtain ⟨F', h1, h2⟩ := ES.drop i o r
    exact ⟨_, .so h h1, List.Sublist.append (List.Sublist.refl _) h2⟩
end

structure Ext (G H G' H' : Hp) : Prop where
  gg : Same G G'
  hh : Same H H'
  gh : Same G' H'
  fr : ∀ a, G' a ≠ none → G a ≠ none ∨ H a = none
theorem Ext.refl {G H : Hp} (s : Same G H) : Ext G H G H := ⟨Same.refl G, Same.refl H, s, fun _ h => .inl h⟩
theorem Ext.trans {G H G1 H1 G2 H2 : Hp} (a : Ext G H G1 H1) (b : Ext G1 H1 G2 H2) : Ext G H G2 H2 :=
  ⟨a.gg.trans b.gg, a.hh.trans b.hh, b.gh, fun x h => by
    rcases b.fr x h with z | z
    · exact a.fr x z
    · exact .inr (a.hh.free z)⟩
structure Rel (K : PySem.W.Frag) (G H : Hp) (env : En) (σ : L2.St) (F : List Addr) : Prop where
  es : ES K G H env σ F
  nd : F.Nodup
  fr : ∀ a ∈ F, G a = none ∧ H a ≠ none
  sm : Same G H
theorem Rel.ext {K : PySem.W.Frag} {G H G' H' : Hp} {env : En} {σ : L2.St} {F : List Addr} (r : Rel K G H env σ F) (e : Ext G H G' H') : Rel K G' H' env σ F :=
  ⟨r.es.keep e.gg (Keep.of e.hh), r.nd, fun a ha => by
    obtain ⟨h1, h2⟩ := r.fr a ha
    refine ⟨?_, ?_⟩
    · cases q : G' a with
      | none => rfl
      | some o =>
        rcases e.fr a (by rw [q]; exact Option.some_ne_none o) with z | z
        · exact absurd h1 z
        · exact absurd z h2
    · cases q : H a with
      | none => exact absurd q h2
      | some o => rw [e.hh a o q]; exact Option.some_ne_none o, e.gh⟩

/-- a new object that is frozen at once -/
theorem same_upd {H : Hp} {p : Addr} {o : HO} (h : H p = none) : Same H (upd H p o) := fun b x e => by
  rw [upd_ne (ne_of_none e h)]; exact e
theorem same_upd2 {G H : Hp} {p : Addr} {o : HO} (s : Same G H) : Same (upd G p o) (upd H p o) := fun b x e => by
  by_cases q : b = p
  · subst q; rw [upd_same] at e ⊢; exact e
  · rw [upd_ne q] at e ⊢; exact s b x e
theorem Ext.new {G H : Hp} {p : Addr} {o : HO} (s : Same G H) (h : H p = none) : Ext G H (upd G p o) (upd H p o) :=
  ⟨same_upd (s.free h), same_upd h, same_upd2 s, fun a q => by
    by_cases e : a = p
    · subst e; exact .inr h
    · rw [upd_ne e] at q; exact .inl q⟩
/-- a new object that is not frozen -/
theorem Ext.fresh {G H : Hp} {p : Addr} {o : HO} (s : Same G H) (h : H p = none) : Ext G H G (upd H p o) :=
  ⟨Same.refl G, same_upd h, s.trans (same_upd h), fun _ q => .inl q⟩
end M
namespace M
open PySem PySem.Spec PyProof.Rows L2

abbrev EM := En → Option T
def LIM : Nat := 1000000
theorem LIM_line : LIM ≤ sizeLine := by rw [sizeLine_eq]; decide
theorem PE_imp {X : Cx} {e : Expr} {t t' : TE} (h : PE X e t) (i : ∀ σ H Q, t' σ H Q → t σ H Q) : PE X e t' := ⟨fun pins s σ H Q I q => h.run pins s σ H Q I (i σ H Q q)⟩
theorem PT_imp {X : Cx} {e : Expr} {t t' : TT} (h : PT X e t) (i : ∀ σ H Q, t' σ H Q → t σ H Q) : PT X e t' := ⟨fun pins s σ H Q I q => h.run pins s σ H Q I (i σ H Q q)⟩
theorem PW_imp {X : Cx} {e : Expr} {t t' : TT} (h : PW X e t) (i : ∀ σ H Q, t' σ H Q → t σ H Q) : PW X e t' := ⟨fun wh pins s σ H Q I q => h.run wh pins s σ H Q I (i σ H Q q)⟩
theorem PA_imp {X : Cx} {e : List Expr} {t t' : TA} (h : PA X e t) (i : ∀ σ H Q, t' σ H Q → t σ H Q) : PA X e t' := ⟨fun pos pins s σ H Q I q => h.run pos pins s σ H Q I (i σ H Q q)⟩

def tM (K : PySem.W.Frag) (m : EM) : TE := fun σ H Q => ∃ G env F, Rel K G H env σ F ∧ ∃ t, m env = some t ∧ ∀ v H' G' F', Ext G H G' H' → TR K G' H' t v F' → Q v H'
abbrev PM (X : Cx) (e : Expr) (m : EM) : Prop := PE X e (tM X.K m)
def tTM (K : PySem.W.Frag) (m : En → Option Bool) : TT := fun σ H Q => ∃ G env F, Rel K G H env σ F ∧ ∃ b, m env = some b ∧ ∀ H' G', Ext G H G' H' → Q b H'
abbrev PTM (X : Cx) (e : Expr) (m : En → Option Bool) : Prop := PT X e (tTM X.K m)
abbrev PWM (X : Cx) (e : Expr) (m : En → Option Bool) : Prop := PW X e (tTM X.K m)
inductive Args (K : PySem.W.Frag) (G H : Hp) : List T → List V → Prop
  | nil : Args K G H [] []
  | cons {t : T} {v : V} {F : List Addr} {ts : List T} {vs : List V} : TR K G H t v F → Args K G H ts vs → Args K G H (t :: ts) (v :: vs)
theorem Args.ext {K : PySem.W.Frag} {G H G' H' : Hp} (e : Ext G H G' H') : ∀ {ts : List T} {vs : List V}, Args K G H ts vs → Args K G' H' ts vs
  | _, _, .nil => .nil
  | _, _, .cons h r => .cons (h.keep e.gg (Keep.of e.hh)) (r.ext e)
theorem Args.length {K : PySem.W.Frag} {G H : Hp} : ∀ {ts : List T} {vs : List V}, Args K G H ts vs → ts.length = vs.length
  | _, _, .nil => rfl
  | _, _, .cons h r => by simp [r.length]
theorem Args.get {K : PySem.W.Frag} {G H : Hp} : ∀ {ts : List T} {vs : List V} {i : Nat} {t : T}, Args K G H ts vs → ts[i]? = some t → ∃ v F, vs[i]? = some v ∧ TR K G H t v F
  | _, _, _, _, .nil, e => by simp at e
  | _, _, 0, _, .cons h _, e => by simp at e; subst e; exact ⟨_, _, rfl, h⟩
  | _, _, i + 1, t, .cons _ r, e => by
    obtain ⟨v, F, h1, h2⟩ := Args.get (i := i) (t := t) r (by simpa using e)
    exact ⟨v, F, by simpa using h1, h2⟩
theorem TRs.args {K : PySem.W.Frag} {G H : Hp} : ∀ {ts : List T} {vs : List V} {F : List Addr}, TRs K G H ts vs F → Args K G H ts vs
  | _, _, _, .nil => .nil
  | _, _, _, .cons h r => .cons h (TRs.args r)
theorem Rps.args {K : PySem.W.Frag} {G H : Hp} : ∀ {ds : List D} {vs : List V}, Rps K G vs ds → Args K G H (ds.map T.p) vs
  | _, _, .nil => .nil
  | _, _, .cons h r => .cons (.p h) (Rps.args r)
def tAM (K : PySem.W.Frag) (m : En → Option (List T)) : TA := fun σ H Q => ∃ G env F, Rel K G H env σ F ∧ ∃ ts, m env = some ts ∧ ∀ vs H' G', Ext G H G' H' → Args K G' H' ts vs → Q vs H'
abbrev PAM (X : Cx) (es : List Expr) (m : En → Option (List T)) : Prop := PA X es (tAM X.K m)

def R2M (K : PySem.W.Frag) (r : R2) (f : T → T → Option T) : Prop := ∀ (G H : Hp) (t1 t2 t : T) (x y : V) (F1 F2 : List Addr), f t1 t2 = some t → Same G H → TR K G H t1 x F1 → TR K G H t2 y F2 →
  ∀ Q : VK, (∀ v H' G' F', Ext G H G' H' → TR K G' H' t v F' → Q v H') → r x y H Q
def CM (K : PySem.W.Frag) (r : List V → Hp → VK → Prop) (f : List T → Option T) : Prop := ∀ (G H : Hp) (ts : List T) (t : T) (xs : List V), f ts = some t → Same G H → Args K G H ts xs →
  ∀ Q : VK, (∀ v H' G' F', Ext G H G' H' → TR K G' H' t v F' → Q v H') → r xs H Q

def mVar (i : Nat) : EM := fun env => ((env[i]?).join).map T.strip
def mC (d : D) : EM := fun _ => some (.p d)
def mOp (f : T → T → Option T) (a b : EM) : EM := fun env => (a env).bind fun x => (b env).bind fun y => f x y
def mCall (f : List T → Option T) (as : En → Option (List T)) : EM := fun env => (as env).bind f
def aNil : En → Option (List T) := fun _ => some []
def aCons (a : EM) (as : En → Option (List T)) : En → Option (List T) := fun env => (a env).bind fun x => (as env).map fun xs => x :: xs
def T.bool? : T → Option Bool
  | .p (.bool b) => some b
  | _ => none
def bVal (m : EM) : En → Option Bool := fun env => (m env).bind T.bool?
def bOp (f : T → T → Option T) (a b : EM) : En → Option Bool := bVal (mOp f a b)
def bAnd (a b : En → Option Bool) : En → Option Bool := fun env => (a env).bind fun x => if x then b env else some false
def bOr (a b : En → Option Bool) : En → Option Bool := fun env => (a env).bind fun x => if x then some true else b env
def bNot (a : En → Option Bool) : En → Option Bool := fun env => (a env).map fun x => !x
def mAnd (a b : EM) : EM := fun env => (a env).bind fun x => x.bool?.bind fun c => if c then b env else some (.p (.bool false))
def mOr (a b : EM) : EM := fun env => (a env).bind fun x => x.bool?.bind fun c => if c then some (.p (.bool true)) else b env
def mNot (a : EM) : EM := fun env => (a env).bind fun x => x.bool?.map fun c => .p (.bool !c)
def mIf (c : En → Option Bool) (a b : EM) : EM := fun env => (c env).bind fun x => if x then a env else b env
def mChain (f g : T → T → Option T) (a b c : EM) : EM := fun env => (a env).bind fun x => (b env).bind fun y => (f x y).bind fun z => z.bool?.bind fun k => if k then (c env).bind fun u => g y u else some (.p (.bool false))

theorem TR.bool {K : PySem.W.Frag} {G H : Hp} {t : T} {v : V} {F : List Addr} {b : Bool} (r : TR K G H t v F) (e : t.bool? = some b) : v = .bl b ∧ t = .p (.bool b) := by
  cases r with
  | p h =>
    cases h with
    | bl c => simp [T.bool?] at e; subst e; exact ⟨rfl, rfl⟩
    | _ => simp [T.bool?] at e
  | _ => simp [T.bool?] at e

section
variable {X : Cx}
theorem pm_var (i : Nat) {x : Str} {pos : Pos} (hN : X.N[i]? = some x := by rfl) (hv : Vis X.env.scope x := by first | exact Or.inl rfl | exact Or.inr (Or.inl rfl) | exact Or.inr (Or.inr rfl)) (hd : (x == ("__debug__" : Str)) = false := by decide)
    (hcd : (x == ("__classdict__" : Str)) = false := by decide) : PM X (.Name x pos) (mVar i) := by
  refine PE_imp (pe_var hN hv hd hcd) fun σ H Q h => ?_
  obtain ⟨G, env, F, rel, t, e, q⟩ := h
  obtain ⟨t0, e', rfl⟩ : ∃ t0, env[i]? = some (some t0) ∧ t0.strip = t := by
    unfold mVar at e
    cases z : env[i]? with
    | none => rw [z] at e; cases e
    | some o =>
      rw [z] at e
      cases o with
      | none => cases e
      | some t0 => cases e; exact ⟨t0, rfl, rfl⟩
  obtain ⟨v, F1, Fa, Fb, h1, h2, _⟩ := rel.es.split e'
  exact ⟨v, h1, q v H G F1 (Ext.refl rel.sm) h2.strip⟩
theorem pm_c {e : Expr} {v : V} {d : D} (h : PE X e (tC v)) (r : ∀ G, Rp X.K G v d) : PM X e (mC d) := by
  refine PE_imp h fun σ H Q h => ?_
  obtain ⟨G, env, F, rel, t, e, q⟩ := h
  cases e
  exact q v H G [] (Ext.refl rel.sm) (.p (r G))
theorem pm_int {i j pos} : PM X (.Constant (.int i) j pos) (mC (.int i)) := pm_c pe_int fun _ => .int i
theorem pm_bl {b j pos} : PM X (.Constant (.bool b) j pos) (mC (.bool b)) := pm_c pe_bl fun _ => .bl b
theorem pm_non {j pos} : PM X (.Constant .none j pos) (mC .none) := pm_c pe_non fun _ => .non
theorem pm_str {x j pos} : PM X (.Constant (.str x) j pos) (mC (.str x)) := pm_c pe_str fun _ => .str x
theorem pm_globInt {x : Str} {pos : Pos} {i : Int} {t : Tok} (hg : Gl X x) (hm : X.mg x = some (.int i t)) (hd : (x == ("__debug__" : Str)) = false := by decide) : PM X (.Name x pos) (mC (.int i)) := pm_c (v := .int i) (pe_glob hg hm ⟨_, rfl⟩ hd) fun _ => .int i
variable {a b c : Expr} {ma mb mc : EM} {pos : Pos}
theorem tOpM {K : PySem.W.Frag} {r : R2} {f : T → T → Option T} (hl : R2M K r f) {σ : L2.St} {H : Hp} {Q : VK} (h : tM K (mOp f ma mb) σ H Q) : tOp r (tM K ma) (tM K mb) σ H Q := by
  obtain ⟨G, env, F, rel, t, e, q⟩ := h
  simp only [mOp, Option.bind_eq_some_iff] at e
  obtain ⟨t1, e1, t2, e2, e3⟩ := e
  refine ⟨G, env, F, rel, t1, e1, fun x H1 G1 F1 x1 r1 => ?_⟩
  refine ⟨G1, env, F, rel.ext x1, t2, e2, fun y H2 G2 F2 x2 r2 => ?_⟩
  exact hl G2 H2 t1 t2 t x y F1 F2 e3 x2.gh (r1.keep x2.gg (Keep.of x2.hh)) r2 Q fun v H' G' F' x3 r3 => q v H' G' F' ((x1.trans x2).trans x3) r3
theorem pm_op {op : Operator} {r : R2} {f : T → T → Option T} (ho : OpR X (binaryOp op) r) (hl : R2M X.K r f) (ha : PM X a ma) (hb : PM X b mb) : PM X (.BinOp a op b pos) (mOp f ma mb) :=
  PE_imp (pe_op ho ha hb) fun _ _ _ h => tOpM hl h
theorem pm_cmp {op : CmpOp} {r : R2} {f : T → T → Option T} (ho : OpR X (compareOp op) r) (hl : R2M X.K r f) (ha : PM X a ma) (hb : PM X b mb) (hm : behindInMarks op b = false) : PM X (.Compare a [op] [b] pos) (mOp f ma mb) :=
  PE_imp (pe_cmpR ho ha hb hm) fun _ _ _ h => tOpM hl h
theorem pm_ix {r : R2} {f : T → T → Option T} (ho : IxR X r) (hl : R2M X.K r f) (ha : PM X a ma) (hb : PM X b mb) (hs : PlainIx b) : PM X (.Subscript a b pos) (mOp f ma mb) :=
  PE_imp (pe_ix ho ha hb hs) fun _ _ _ h => tOpM hl h
theorem tBM {K : PySem.W.Frag} {m : EM} {σ : L2.St} {H : Hp} {Q : Bool → Hp → Prop} (h : tTM K (bVal m) σ H Q) : tM K m σ H fun x H1 => ∃ k, x = .bl k ∧ Q k H1 := by
  obtain ⟨G, env, F, rel, b, e, q⟩ := h
  simp only [bVal, Option.bind_eq_some_iff] at e
  obtain ⟨t, e1, e2⟩ := e
  refine ⟨G, env, F, rel, t, e1, fun v H' G' F' x r => ?_⟩
  obtain ⟨rfl, _⟩ := r.bool e2
  exact ⟨b, rfl, q H' G' x⟩
theorem ptm_cmp {op : CmpOp} {r : R2} {f : T → T → Option T} (ho : OpR X (compareOp op) r) (hl : R2M X.K r f) (ha : PM X a ma) (hb : PM X b mb) (hm : behindInMarks op b = false) : PTM X (.Compare a [op] [b] pos) (bOp f ma mb) := by
  refine PT_imp (pt_cmpR ho ha hb hm) fun σ H Q h => ?_
  exact tOpM hl (Q := fun x H' => ∃ k, x = .bl k ∧ Q k H') (tBM h)
theorem ptm_val {e : Expr} {m : EM} (h : PM X e m) (he : ∀ whole, isTrue e X.env whole = (do let v ← whole; standAt e.pos; holding [v] (truthy v)) := by intro _; rfl) : PTM X e (bVal m) :=
  PT_imp (pt_val h he) fun σ H Q q => tBM q
theorem ptm_not {m : En → Option Bool} (h : PTM X a m) : PTM X (.UnaryOp .Not a pos) (bNot m) := by
  refine PT_imp (pt_not h) fun σ H Q q => ?_
  obtain ⟨G, env, F, rel, b, e, q⟩ := q
  simp only [bNot, Option.map_eq_some_iff] at e
  obtain ⟨x, e1, rfl⟩ := e
  exact ⟨G, env, F, rel, x, e1, fun H' G' x1 => q H' G' x1⟩
variable {rest : List Expr} {m m' : En → Option Bool}
theorem pwm_and1 (h : PTM X a m) : PWM X (.BoolOp .And [a] pos) m := pw_and1 h
theorem pwm_or1 (h : PTM X a m) : PWM X (.BoolOp .Or [a] pos) m := pw_or1 h
theorem pwm_and (h : PTM X a m) (h' : PWM X (.BoolOp .And (b :: rest) pos) m') : PWM X (.BoolOp .And (a :: b :: rest) pos) (bAnd m m') := by
  refine PW_imp (pw_and h h') fun σ H Q q => ?_
  obtain ⟨G, env, F, rel, k, e, q⟩ := q
  simp only [bAnd, Option.bind_eq_some_iff] at e
  obtain ⟨x, e1, e2⟩ := e
  refine ⟨G, env, F, rel, x, e1, fun H' G' x1 => ?_⟩
  cases x with
  | true =>
    rw [if_pos rfl] at e2 ⊢
    exact ⟨G', env, F, rel.ext x1, k, e2, fun H2 G2 x2 => q H2 G2 (x1.trans x2)⟩
  | false =>
    rw [if_neg Bool.false_ne_true] at e2 ⊢
    cases e2
    exact q H' G' x1
theorem pwm_or (h : PTM X a m) (h' : PWM X (.BoolOp .Or (b :: rest) pos) m') : PWM X (.BoolOp .Or (a :: b :: rest) pos) (bOr m m') := by
  refine PW_imp (pw_or h h') fun σ H Q q => ?_
  obtain ⟨G, env, F, rel, k, e, q⟩ := q
  simp only [bOr, Option.bind_eq_some_iff] at e
  obtain ⟨x, e1, e2⟩ := e
  refine ⟨G, env, F, rel, x, e1, fun H' G' x1 => ?_⟩
  cases x with
  | true =>
    rw [if_pos rfl] at e2 ⊢
    cases e2
    exact q H' G' x1
  | false =>
    rw [if_neg Bool.false_ne_true] at e2 ⊢
    exact ⟨G', env, F, rel.ext x1, k, e2, fun H2 G2 x2 => q H2 G2 (x1.trans x2)⟩
theorem ptm_w {e : Expr} (h : PWM X e m) : PTM X e m := h.pt
theorem pm_one {op : BoolOp} (h : PM X a ma) : PM X (.BoolOp op [a] pos) ma := pe_one h
theorem pm_and (ha : PM X a ma) (hb : PM X (.BoolOp .And (b :: rest) pos) mb) : PM X (.BoolOp .And (a :: b :: rest) pos) (mAnd ma mb) := by
  refine PE_imp (pe_and ha hb) fun σ H Q q => ?_
  obtain ⟨G, env, F, rel, t, e, q⟩ := q
  simp only [mAnd, Option.bind_eq_some_iff] at e
  obtain ⟨x, e1, k, e2, e3⟩ := e
  refine ⟨G, env, F, rel, x, e1, fun v H' G' F' x1 r => ?_⟩
  obtain ⟨rfl, _⟩ := r.bool e2
  refine ⟨k, rfl, ?_⟩
  cases k with
  | true =>
    rw [if_pos rfl] at e3 ⊢
    exact ⟨G', env, F, rel.ext x1, t, e3, fun v H2 G2 F2 x2 r2 => q v H2 G2 F2 (x1.trans x2) r2⟩
  | false =>
    rw [if_neg Bool.false_ne_true] at e3 ⊢
    cases e3
    exact q _ H' G' [] x1 (.p (.bl false))
theorem pm_ifExp (hc : PTM X c m) (ha : PM X a ma) (hb : PM X b mb) : PM X (.IfExp c a b pos) (mIf m ma mb) := by
  refine PE_imp (pe_ifExp hc ha hb) fun σ H Q q => ?_
  obtain ⟨G, env, F, rel, t, e, q⟩ := q
  simp only [mIf, Option.bind_eq_some_iff] at e
  obtain ⟨x, e1, e2⟩ := e
  refine ⟨G, env, F, rel, x, e1, fun H' G' x1 => ?_⟩
  cases x with
  | true =>
    rw [if_pos rfl] at e2 ⊢
    exact ⟨G', env, F, rel.ext x1, t, e2, fun v H2 G2 F2 x2 r2 => q v H2 G2 F2 (x1.trans x2) r2⟩
  | false =>
    rw [if_neg Bool.false_ne_true] at e2 ⊢
    exact ⟨G', env, F, rel.ext x1, t, e2, fun v H2 G2 F2 x2 r2 => q v H2 G2 F2 (x1.trans x2) r2⟩
theorem tChainM {K : PySem.W.Frag} {r r' : R2} {f g : T → T → Option T} (hl : R2M K r f) (hl' : R2M K r' g) {σ : L2.St} {H : Hp} {Q : VK} (h : tM K (mChain f g ma mb mc) σ H Q) : tChain r r' (tM K ma) (tM K mb) (tM K mc) σ H Q := by
  obtain ⟨G, env, F, rel, t, e, q⟩ := h
  simp only [mChain, Option.bind_eq_some_iff] at e
  obtain ⟨t1, e1, t2, e2, t3, e3, k, e4, e5⟩ := e
  refine ⟨G, env, F, rel, t1, e1, fun x H1 G1 F1 x1 r1 => ?_⟩
  refine ⟨G1, env, F, rel.ext x1, t2, e2, fun y H2 G2 F2 x2 r2 => ?_⟩
  refine hl G2 H2 t1 t2 t3 x y F1 F2 e3 x2.gh (r1.keep x2.gg (Keep.of x2.hh)) r2 _ fun v H3 G3 F3 x3 r3 => ?_
  obtain ⟨rfl, _⟩ := r3.bool e4
  refine ⟨k, rfl, ?_⟩
  cases k with
  | true =>
    rw [if_pos rfl] at e5 ⊢
    simp only [Option.bind_eq_some_iff] at e5
    obtain ⟨t4, e6, e7⟩ := e5
    refine ⟨G3, env, F, ((rel.ext x1).ext x2).ext x3, t4, e6, fun z H4 G4 F4 x4 r4 => ?_⟩
    have x34 := x3.trans x4
    exact hl' G4 H4 t2 t4 t y z F2 F4 e7 x4.gh (r2.keep x34.gg (Keep.of x34.hh)) r4 Q fun v H' G' F' x5 r5 => q v H' G' F' (((x1.trans x2).trans x34).trans x5) r5
  | false =>
    rw [if_neg Bool.false_ne_true] at e5 ⊢
    cases e5
    exact q _ H3 G3 [] ((x1.trans x2).trans x3) (.p (.bl false))
theorem pm_chain {op op' : CmpOp} {r r' : R2} {f g : T → T → Option T} (ho : OpR X (compareOp op) r) (hl : R2M X.K r f) (ho' : OpR X (compareOp op') r') (hl' : R2M X.K r' g) (ha : PM X a ma) (hb : PM X b mb) (hc : PM X c mc) (h1 : lastMarks [op, op'] [b, c] = false := by rfl) :
    PM X (.Compare a [op, op'] [b, c] pos) (mChain f g ma mb mc) := PE_imp (pe_chain ho ho' ha hb hc h1) fun _ _ _ h => tChainM hl hl' h
theorem ptm_chain {op op' : CmpOp} {r r' : R2} {f g : T → T → Option T} (ho : OpR X (compareOp op) r) (hl : R2M X.K r f) (ho' : OpR X (compareOp op') r') (hl' : R2M X.K r' g) (ha : PM X a ma) (hb : PM X b mb) (hc : PM X c mc) (h1 : lastMarks [op, op'] [b, c] = false := by rfl) :
    PTM X (.Compare a [op, op'] [b, c] pos) (bVal (mChain f g ma mb mc)) :=
  PT_imp (pt_chain ho ho' ha hb hc h1) fun σ H Q h => tChainM hl hl' (Q := fun x H' => ∃ k, x = .bl k ∧ Q k H') (tBM h)
variable {e : Expr} {es : List Expr} {me : EM} {ms : En → Option (List T)}
theorem pam_nil : PAM X [] aNil := by
  refine PA_imp pa_nil fun σ H Q h => ?_
  obtain ⟨G, env, F, rel, ts, e, q⟩ := h
  cases e
  exact q [] H G (Ext.refl rel.sm) .nil
theorem pam_cons (ha : PM X e me) (hr : PAM X es ms) (hs : starEach (e :: es) X.env = (false, eval e X.env) :: starEach es X.env := by rfl) : PAM X (e :: es) (aCons me ms) := by
  refine PA_imp (pa_cons ha hr hs) fun σ H Q h => ?_
  obtain ⟨G, env, F, rel, ts, e1, q⟩ := h
  simp only [aCons, Option.bind_eq_some_iff, Option.map_eq_some_iff] at e1
  obtain ⟨t, e2, tr, e3, rfl⟩ := e1
  refine ⟨G, env, F, rel, t, e2, fun x H1 G1 F1 x1 r1 => ?_⟩
  refine ⟨G1, env, F, rel.ext x1, tr, e3, fun ys H2 G2 x2 r2 => ?_⟩
  exact q (x :: ys) H2 G2 (x1.trans x2) (.cons (r1.keep x2.gg (Keep.of x2.hh)) r2)
theorem tCBM {K : PySem.W.Frag} {r : List V → Hp → VK → Prop} {f : List T → Option T} (hl : CM K r f) {σ : L2.St} {H : Hp} {Q : VK} (h : tM K (mCall f ms) σ H Q) : tCB r (tAM K ms) σ H Q := by
  obtain ⟨G, env, F, rel, t, e, q⟩ := h
  simp only [mCall, Option.bind_eq_some_iff] at e
  obtain ⟨ts, e1, e2⟩ := e
  refine ⟨G, env, F, rel, ts, e1, fun vs H1 G1 x1 r1 => ?_⟩
  exact hl G1 H1 ts t vs e2 x1.gh r1 Q fun v H' G' F' x2 r2 => q v H' G' F' (x1.trans x2) r2
theorem pm_callB {x : Str} {id : String} {r : List V → Hp → VK → Prop} {f : List T → Option T} {p : Pos} (hc : CallR X (.builtin id) r) (hl : CM X.K r f) (hg : Gl X x) (hm : X.mg x = none) (hv : bootBuiltins x = some (.builtin id)) (ha : PAM X (e :: es) ms)
    (hn : x ≠ "__name__" := by decide) (hdb : (x == ("__debug__" : Str)) = false := by decide)
    (he : starEach (e :: es) X.env = (false, eval e X.env) :: starEach es X.env := by rfl) (hpl : (backTo pos (starEach es X.env)).any (·.1) = false := by rfl) : PM X (.Call (.Name x p) (e :: es) [] pos) (mCall f ms) :=
  PE_imp (pe_callB hc hg hm hv ha hn hdb he hpl) fun _ _ _ h => tCBM hl h
theorem pm_callTy {x : Str} {id : String} {r : List V → Hp → VK → Prop} {f : List T → Option T} {p : Pos} (hc : CallR X (.type id) r) (hl : CM X.K r f) (hg : Gl X x) (hm : X.mg x = none) (hv : bootBuiltins x = some (.type id)) (ha : PAM X (e :: es) ms)
    (hn : x ≠ "__name__" := by decide) (hdb : (x == ("__debug__" : Str)) = false := by decide)
    (he : starEach (e :: es) X.env = (false, eval e X.env) :: starEach es X.env := by rfl) (hpl : (backTo pos (starEach es X.env)).any (·.1) = false := by rfl) : PM X (.Call (.Name x p) (e :: es) [] pos) (mCall f ms) :=
  PE_imp (pe_callTy hc hg hm hv ha hn hdb he hpl) fun _ _ _ h => tCBM hl h
def T.pure? : T → Option D
  | .p d => some d
  | _ => none
def pures : List T → Option (List D)
  | [] => some []
  | t :: r => t.pure?.bind fun d => (pures r).map fun ds => d :: ds
theorem pures_map : ∀ ds : List D, pures (ds.map T.p) = some ds
  | [] => rfl
  | d :: r => by simp [pures, T.pure?, pures_map r]
theorem Args.pures {K : PySem.W.Frag} {G H : Hp} : ∀ {ts : List T} {vs : List V} {ds : List D}, Args K G H ts vs → pures ts = some ds → Rps K G vs ds
  | _, _, _, .nil, e => by simp [M.pures] at e; subst e; exact .nil
  | _, _, _, .cons (t := t) h r, e => by
    simp only [M.pures, Option.bind_eq_some_iff, Option.map_eq_some_iff] at e
    obtain ⟨d, e1, ds, e2, rfl⟩ := e
    cases t with
    | p d' => simp [T.pure?] at e1; subst e1; exact .cons h.pure (Args.pures r e2)
    | _ => simp [T.pure?] at e1
def mTup (ms : En → Option (List T)) : EM := fun env => (ms env).bind fun ts => (pures ts).bind fun ds => if ds.length ≤ LIM then some (.p (.tuple ds)) else none
def mLst (ms : En → Option (List T)) : EM := fun env => (ms env).bind fun ts => (pures ts).bind fun ds => if ds.length ≤ LIM then some (.p (.list ds)) else none
theorem pm_tup {x1} (h : PAM X es ms) : PM X (.Tuple es x1 pos) (mTup ms) := by
  refine PE_imp (pe_tup h) fun σ H Q q => ?_
  obtain ⟨G, env, F, rel, t, e1, q⟩ := q
  simp only [mTup, Option.bind_eq_some_iff] at e1
  obtain ⟨ts, e2, ds, e3, e4⟩ := e1
  split at e4
  · rename_i hz
    cases e4
    refine ⟨G, env, F, rel, ts, e2, fun vs H1 G1 x1 r1 => ?_⟩
    have rr := r1.pures e3
    refine ⟨by rw [rr.length]; exact Nat.le_trans hz LIM_line, fun p np => ?_⟩
    have x2 := Ext.new (o := .tup vs) x1.gh np
    exact q _ _ _ [] (x1.trans x2) (.p (.tup (.inl (.inl upd_same)) (rr.mono x2.gg)))
  · cases e4
theorem pm_lst (h : PAM X es ms) : PM X (.List es pos) (mLst ms) := by
  refine PE_imp (pe_lst h) fun σ H Q q => ?_
  obtain ⟨G, env, F, rel, t, e1, q⟩ := q
  simp only [mLst, Option.bind_eq_some_iff] at e1
  obtain ⟨ts, e2, ds, e3, e4⟩ := e1
  split at e4
  · rename_i hz
    cases e4
    refine ⟨G, env, F, rel, ts, e2, fun vs H1 G1 x1 r1 => ?_⟩
    have rr := r1.pures e3
    refine ⟨by rw [rr.length]; exact Nat.le_trans hz LIM_line, fun p np => ?_⟩
    have x2 := Ext.new (o := .lst vs) x1.gh np
    exact q _ _ _ [] (x1.trans x2) (.p (.lst upd_same (rr.mono x2.gg)))
  · cases e4
end
end M
namespace M
open PySem PySem.Spec PyProof.Rows L2

def T.int? : T → Option Int
  | .p (.int i) => some i
  | _ => none
def T.kids : T → Option (List T)
  | .p (.list ds) => some (ds.map T.p)
  | .p (.tuple ds) => some (ds.map T.p)
  | .sc ns => some ((ns.map PyData.int).map T.p)
  | .ml ts => some ts
  | .tp ts => some ts
  | _ => none
/-- a tracked list of pure items -/
def T.lst? : T → Option (List D)
  | .p (.list ds) => some ds
  | .ml ts => pures ts
  | _ => none
def T.tup? : T → Option (List D)
  | .p (.tuple ds) => some ds
  | .tp ts => pures ts
  | _ => none
def T.ptup? : T → Option (List D)
  | .p (.tuple ds) => some ds
  | _ => none
/-- a list that may be read -/
def T.seq? : T → Option (List D)
  | .p (.list ds) => some ds
  | .ml ts => pures ts
  | .sc ns => some (ns.map PyData.int)
  | _ => none

section
variable {K : PySem.W.Frag} {G H : Hp} {t : T} {v : V} {F : List Addr}
theorem TR.int (r : TR K G H t v F) {i : Int} (e : t.int? = some i) : v = .int i := by
  cases r with
  | p h => cases h <;> simp [T.int?] at e; subst e; rfl
  | _ => simp [T.int?] at e
theorem TR.kids (r : TR K G H t v F) (s : Same G H) {ts : List T} (e : t.kids = some ts) : ∃ a vs, v = .ref a ∧ (SqL K H a vs ∨ SqT K H a vs) ∧ Args K G H ts vs := by
  cases r with
  | p h =>
    cases h with
    | lst h r => simp [T.kids] at e; subst e; exact ⟨_, _, rfl, .inl (.inl (.inl (s _ _ h))), Rps.args r⟩
    | tup h r => simp [T.kids] at e; subst e; exact ⟨_, _, rfl, .inr (Same.seqT s h), Rps.args r⟩
    | _ => simp [T.kids] at e
  | sc h => simp only [T.kids, Option.some.injEq] at e; subst e; exact ⟨_, _, rfl, .inl (s.seq h), Rps.args (Rps.of_ints _)⟩
  | ml h r => simp [T.kids] at e; subst e; exact ⟨_, _, rfl, .inl (.inl (.inl h)), r.args⟩
  | tp h r => simp [T.kids] at e; subst e; exact ⟨_, _, rfl, .inr (.inl (.inl h)), r.args⟩
  | _ => simp [T.kids] at e
theorem TR.lst (r : TR K G H t v F) (s : Same G H) {ds : List D} (e : t.lst? = some ds) : ∃ a vs, v = .ref a ∧ H a = some (.lst vs) ∧ Rps K G vs ds := by
  cases r with
  | p h =>
    cases h with
    | lst h r => simp [T.lst?] at e; subst e; exact ⟨_, _, rfl, s _ _ h, r⟩
    | _ => simp [T.lst?] at e
  | ml h r => exact ⟨_, _, rfl, h, r.args.pures e⟩
  | _ => simp [T.lst?] at e
theorem TR.tup (r : TR K G H t v F) (s : Same G H) {ds : List D} (e : t.tup? = some ds) : ∃ a vs, v = .ref a ∧ SqT K H a vs ∧ Rps K G vs ds := by
  cases r with
  | p h =>
    cases h with
    | tup h r => simp [T.tup?] at e; subst e; exact ⟨_, _, rfl, Same.seqT s h, r⟩
    | _ => simp [T.tup?] at e
  | tp h r => exact ⟨_, _, rfl, .inl (.inl h), r.args.pures e⟩
  | _ => simp [T.tup?] at e
theorem TR.ptup (r : TR K G H t v F) {ds : List D} (e : t.ptup? = some ds) : ∃ a vs, v = .ref a ∧ SqT K G a vs ∧ Rps K G vs ds := by
  cases r with
  | p h =>
    cases h with
    | tup h r => simp [T.ptup?] at e; subst e; exact ⟨_, _, rfl, h, r⟩
    | _ => simp [T.ptup?] at e
  | _ => simp [T.ptup?] at e
theorem TR.seq (r : TR K G H t v F) (s : Same G H) {ds : List D} (e : t.seq? = some ds) : ∃ a vs, v = .ref a ∧ SqL K H a vs ∧ Rps K G vs ds := by
  cases r with
  | p h =>
    cases h with
    | lst h r => simp [T.seq?] at e; subst e; exact ⟨_, _, rfl, .inl (.inl (s _ _ h)), r⟩
    | _ => simp [T.seq?] at e
  | ml h r => exact ⟨_, _, rfl, .inl (.inl h), r.args.pures e⟩
  | sc h => simp only [T.seq?, Option.some.injEq] at e; subst e; exact ⟨_, _, rfl, s.seq h, Rps.of_ints _⟩
  | _ => simp [T.seq?] at e
theorem Args.at {ts : List T} {vs : List V} (r : Args K G H ts vs) {i : Int} {t : T} (e : atI ts i = some t) : ∃ v F, atI vs i = some v ∧ TR K G H t v F := by
  unfold atI at e ⊢
  rw [Option.bind_eq_some_iff] at e
  obtain ⟨j, e1, e2⟩ := e
  obtain ⟨v, F, h1, h2⟩ := r.get e2
  exact ⟨v, F, by rw [← r.length, e1]; exact h1, h2⟩
end

def iOp (f : Int → Int → Option Int) : T → T → Option T := fun a b => a.int?.bind fun i => b.int?.bind fun j => (f i j).map fun k => .p (.int k)
def cOp (f : Int → Int → Bool) : T → T → Option T := fun a b => a.int?.bind fun i => b.int?.map fun j => .p (.bool (f i j))
section
variable {K : PySem.W.Frag}
theorem r2m_i {C : Int → Int → Prop} {g : Int → Int → Int} {f : Int → Int → Option Int} (h : ∀ i j k, f i j = some k → C i j ∧ k = g i j) : R2M K (rI C fun i j => .int (g i j)) (iOp f) := by
  intro G H t1 t2 t x y F1 F2 e s r1 r2 Q q
  simp only [iOp, Option.bind_eq_some_iff, Option.map_eq_some_iff] at e
  obtain ⟨i, e1, j, e2, k, e3, rfl⟩ := e
  obtain ⟨c, rfl⟩ := h i j k e3
  exact ⟨i, j, r1.int e1, r2.int e2, c, q _ H G [] (Ext.refl s) (.p (.int _))⟩
theorem r2m_i0 {g : Int → Int → Int} : R2M K (rI0 fun i j => .int (g i j)) (iOp fun i j => some (g i j)) := by
  intro G H t1 t2 t x y F1 F2 e s r1 r2 Q q
  simp only [iOp, Option.bind_eq_some_iff, Option.map_eq_some_iff] at e
  obtain ⟨i, e1, j, e2, k, e3, rfl⟩ := e
  cases e3
  exact ⟨i, j, r1.int e1, r2.int e2, q _ H G [] (Ext.refl s) (.p (.int _))⟩
theorem r2m_c {g : Int → Int → Bool} : R2M K (rI0 fun i j => .bl (g i j)) (cOp g) := by
  intro G H t1 t2 t x y F1 F2 e s r1 r2 Q q
  simp only [cOp, Option.bind_eq_some_iff, Option.map_eq_some_iff] at e
  obtain ⟨i, e1, j, e2, rfl⟩ := e
  exact ⟨i, j, r1.int e1, r2.int e2, q _ H G [] (Ext.refl s) (.p (.bl _))⟩
end
def mulOk (i j : Int) : Bool := decide (i.natAbs < 2 ^ 64) || decide (j.natAbs < 2 ^ 64) || decide (i.natAbs.log2 + j.natAbs.log2 < 1000000)
def CMulB (i j : Int) : Prop := mulOk i j = true
theorem CMulB.ok {i j : Int} (h : CMulB i j) : IntMulOk i j := by
  unfold CMulB mulOk at h
  simp only [Bool.or_eq_true, decide_eq_true_eq] at h
  rcases h with (h | h) | h
  · exact (show CMul i j from .inl ⟨by omega, by omega⟩).ok
  · exact (show CMul i j from .inr ⟨by omega, by omega⟩).ok
  · exact (show CMulW i j from h).ok
def divOk (j : Int) : Bool := decide (j ≠ 0) && decide (j.natAbs.log2 < 9000)
def CDivB (_ j : Int) : Prop := divOk j = true
section
variable {X : Cx}
theorem op_mulB : OpR X (binaryOp .Mult) (rI CMulB fun i j => .int (i * j)) := opI fun _ _ _ _ _ _ _ hc q => mul_int q hc.ok
theorem op_fdivB : OpR X (binaryOp .FloorDiv) (rI CDivB fun i j => .int (i.fdiv j)) := opI fun i j _ _ _ _ _ hc q => by
  have h : divOk j = true := hc
  unfold divOk at h
  simp only [Bool.and_eq_true, decide_eq_true_eq] at h
  exact floordiv_int h.1 q (.inl (PyProof.noPylong_of_log2 h.2))
end
def subT : T → T → Option T := iOp fun i j => some (i - j)
def modT : T → T → Option T := iOp fun i j => if j = 0 then none else some (i.fmod j)
def fdivT : T → T → Option T := iOp fun i j => if divOk j then some (i.fdiv j) else none
def powT : T → T → Option T := iOp fun i j => if 0 ≤ j ∧ j ≤ 1000000 ∧ i.natAbs < 2 ^ 64 then some (i ^ j.toNat) else none
def ltT : T → T → Option T := cOp fun i j => decide (i < j)
def leT : T → T → Option T := cOp fun i j => decide (i ≤ j)
def gtT : T → T → Option T := cOp fun i j => decide (j < i)
def geT : T → T → Option T := cOp fun i j => decide (j ≤ i)
def addT : T → T → Option T := fun a b =>
  match a.int?, b.int? with
  | some i, some j => some (.p (.int (i + j)))
  | _, _ => match a.lst?, b.lst? with
    | some xs, some ys => if xs.length + ys.length ≤ LIM then some (.p (.list (xs ++ ys))) else none
    | _, _ => match a.ptup?, b.ptup? with
      | some xs, some ys => if xs.length + ys.length ≤ LIM then some (.p (.tuple (xs ++ ys))) else none
      | _, _ => match a, b with
        | .p (.str x), .p (.str y) => if x.length + y.length ≤ LIM then some (.p (.str (x ++ y))) else none
        | _, _ => none
/-- a list may be told so many times -/
def rep62 (m : Nat) (j : Int) : Prop := -(2 ^ 62) ≤ j ∧ j < 2 ^ 62 ∧ m * j.toNat ≤ LIM
noncomputable instance (m : Nat) (j : Int) : Decidable (rep62 m j) := Classical.propDecidable _
noncomputable def mulT : T → T → Option T := fun a b =>
  match a.int?, b.int? with
  | some i, some j => if mulOk i j then some (.p (.int (i * j))) else none
  | _, some j => match a.lst? with
    | some xs => if rep62 xs.length j then some (.p (.list (List.replicate j.toNat xs).flatten)) else none
    | none => match a.tup? with
      | some xs => if xs ≠ [] ∧ 2 ≤ j ∧ j ≤ 1000 ∧ xs.length ≤ 1000 then some (.p (.tuple (List.replicate j.toNat xs).flatten)) else none
      | none => none
  | _, none => none
def rAddA (K : PySem.W.Frag) : R2 := fun x y H Q => (rI0 (fun i j => .int (i + j)) x y H Q ∨ rCat x y H Q) ∨ (rCatA K x y H Q ∨ ∃ i j, x = .str i ∧ y = .str j ∧ i.length + j.length ≤ sizeLine ∧ Q (.str (i ++ j)) H)
def rMulA (K : PySem.W.Frag) : R2 := fun x y H Q => rI CMulB (fun i j => .int (i * j)) x y H Q ∨ (rRep x y H Q ∨ rRepT K x y H Q)
theorem op_addA {X : Cx} : OpR X (binaryOp .Add) (rAddA X.K) := (op_add.or op_cat).or (op_catA.or op_add_str)
theorem op_mulA {X : Cx} : OpR X (binaryOp .Mult) (rMulA X.K) := op_mulB.or (op_rep.or op_repT)
section
variable {K : PySem.W.Frag}
theorem r2m_sub : R2M K (rI0 fun i j => .int (i - j)) subT := r2m_i0
theorem r2m_mod : R2M K (rI (fun _ j => j ≠ 0) fun i j => .int (i.fmod j)) modT := r2m_i fun i j k e => by
  split at e
  · cases e
  · rename_i h; cases e; exact ⟨h, rfl⟩
theorem r2m_fdiv : R2M K (rI CDivB fun i j => .int (i.fdiv j)) fdivT := r2m_i fun i j k e => by
  split at e
  · rename_i h; cases e; exact ⟨h, rfl⟩
  · cases e
theorem r2m_pow : R2M K (rI CPow fun i j => .int (i ^ j.toNat)) powT := r2m_i fun i j k e => by
  split at e
  · rename_i h; cases e; exact ⟨h, rfl⟩
  · cases e
theorem r2m_lt : R2M K (rI0 fun i j => .bl (decide (i < j))) ltT := r2m_c
theorem r2m_le : R2M K (rI0 fun i j => .bl (decide (i ≤ j))) leT := r2m_c
theorem r2m_gt : R2M K (rI0 fun i j => .bl (decide (j < i))) gtT := r2m_c
theorem r2m_ge : R2M K (rI0 fun i j => .bl (decide (j ≤ i))) geT := r2m_c
theorem r2m_add : R2M K (rAddA K) addT := by
  intro G H t1 t2 t x y F1 F2 e s r1 r2 Q q
  unfold addT at e
  split at e
  · rename_i i j e1 e2
    cases e
    exact .inl (.inl ⟨i, j, r1.int e1, r2.int e2, q _ H G [] (Ext.refl s) (.p (.int _))⟩)
  · split at e
    · rename_i xs ys e1 e2
      split at e
      · rename_i hz
        cases e
        obtain ⟨a, vs, rfl, h1, p1⟩ := r1.lst s e1
        obtain ⟨b, ws, rfl, h2, p2⟩ := r2.lst s e2
        refine .inl (.inr ⟨a, b, vs, ws, rfl, rfl, h1, h2, by rw [p1.length, p2.length]; exact Nat.le_trans hz LIM_line, fun p np => ?_⟩)
        have x2 := Ext.new (o := .lst (vs ++ ws)) s np
        exact q _ _ _ [] x2 (.p (.lst upd_same ((p1.append p2).mono x2.gg)))
      · cases e
    · split at e
      · rename_i xs ys e1 e2
        split at e
        · rename_i hz
          cases e
          obtain ⟨a, vs, rfl, g1, p1⟩ := r1.ptup e1
          obtain ⟨b, ws, rfl, g2, p2⟩ := r2.ptup e2
          refine .inr (.inl ⟨a, b, vs, ws, rfl, rfl, Same.seqT s g1, Same.seqT s g2, by rw [p1.length, p2.length]; exact Nat.le_trans hz LIM_line, fun z => ?_, fun _ z => ?_, fun _ _ p np => ?_⟩)
          · subst z
            cases p1
            exact q _ H G [] (Ext.refl s) (.p (.tup g2 p2))
          · subst z
            cases p2
            rw [List.append_nil] at q
            exact q _ H G [] (Ext.refl s) (.p (.tup g1 p1))
          · have x2 := Ext.new (o := .tup (vs ++ ws)) s np
            exact q _ _ _ [] x2 (.p (.tup (.inl (.inl upd_same)) ((p1.append p2).mono x2.gg)))
        · cases e
      · split at e
        · split at e
          · rename_i hz
            cases e
            cases r1.pure
            cases r2.pure
            exact .inr (.inr ⟨_, _, rfl, rfl, Nat.le_trans hz LIM_line, q _ H G [] (Ext.refl s) (.p (.str _))⟩)
          · cases e
        · cases e
theorem r2m_mul : R2M K (rMulA K) mulT := by
  intro G H t1 t2 t x y F1 F2 e s r1 r2 Q q
  unfold mulT at e
  split at e
  · rename_i i j e1 e2
    split at e
    · rename_i hz
      cases e
      exact .inl ⟨i, j, r1.int e1, r2.int e2, hz, q _ H G [] (Ext.refl s) (.p (.int _))⟩
    · cases e
  · rename_i o1 o2 j e1 e2
    split at e
    · rename_i xs e3
      split at e
      · rename_i hz
        have hz : -(2 ^ 62) ≤ j ∧ j < 2 ^ 62 ∧ xs.length * j.toNat ≤ LIM := hz
        cases e
        obtain ⟨a, vs, rfl, h1, p1⟩ := r1.lst s e3
        refine .inr (.inl ⟨a, j, vs, rfl, r2.int e1, h1, by omega, by omega, by rw [p1.length]; exact Nat.le_trans hz.2.2 LIM_line, fun p np => ?_⟩)
        have x2 := Ext.new (o := .lst (List.replicate j.toNat vs).flatten) s np
        exact q _ _ _ [] x2 (.p (.lst upd_same ((p1.rep _).mono x2.gg)))
      · cases e
    · split at e
      · rename_i xs e3
        split at e
        · rename_i hz
          cases e
          obtain ⟨a, vs, rfl, h1, p1⟩ := r1.tup s e3
          refine .inr (.inr ⟨a, j, vs, rfl, r2.int e1, h1, fun z => ?_, hz.2.1, hz.2.2.1, by rw [p1.length]; exact hz.2.2.2, fun p np => ?_⟩)
          · subst z
            cases p1
            exact hz.1 rfl
          · have x2 := Ext.new (o := .tup (List.replicate j.toNat vs).flatten) s np
            exact q _ _ _ [] x2 (.p (.tup (.inl (.inl upd_same)) ((p1.rep _).mono x2.gg)))
        · cases e
      · cases e
  · cases e
end

mutual
theorem Rp.dp {K : PySem.W.Frag} {H : Hp} : ∀ {v : V} {d : D}, Rp K H v d → d.canLay0 = true → Dp K H v d
  | _, _, .non, _ => .non
  | _, _, .bl b, _ => .bl b
  | _, _, .int i, _ => .int i
  | _, _, .str x, _ => .str x
  | _, _, .lst h r, e => .lst (.inl (.inl h)) (Rps.dp r (by simpa only [PyData.canLay0] using e))
  | _, _, .tup h r, e => .tup h (Rps.dp r (by simpa only [PyData.canLay0] using e))
  | _, _, .dct h r, e => by simp [PyData.canLay0] at e
theorem Rps.dp {K : PySem.W.Frag} {H : Hp} : ∀ {v : List V} {d : List D}, Rps K H v d → PyData.canLayAll0 d = true → DpAll K H v d
  | _, _, .nil, _ => .nil
  | _, _, .cons h r, e => by
    simp only [PyData.canLayAll0, Bool.and_eq_true] at e
    exact .cons (Rp.dp h e.1) (Rps.dp r e.2)
end
def eqT : T → T → Option T := fun a b => a.snap.bind fun d => b.snap.bind fun e => if SeqAt.shaped d = true ∧ SeqAt.shaped e = true then some (.p (.bool (PyData.eqv d e))) else none
def neT : T → T → Option T := fun a b => a.snap.bind fun d => b.snap.bind fun e => if SeqAt.shaped d = true ∧ SeqAt.shaped e = true then some (.p (.bool (!PyData.eqv d e))) else none
section
variable {K : PySem.W.Frag}
theorem r2m_eq : R2M K (rEqD K) eqT := by
  intro G H t1 t2 t x y F1 F2 e s r1 r2 Q q
  simp only [eqT, Option.bind_eq_some_iff] at e
  obtain ⟨d, e1, d2, e2, e3⟩ := e
  split at e3
  · rename_i hz
    cases e3
    exact ⟨d, d2, (r1.live s e1).dp (SeqAt.canLay_of_shaped hz.1), (r2.live s e2).dp (SeqAt.canLay_of_shaped hz.2), hz.1, hz.2, q _ H G [] (Ext.refl s) (.p (.bl _))⟩
  · cases e3
theorem r2m_ne : R2M K (rNeD K) neT := by
  intro G H t1 t2 t x y F1 F2 e s r1 r2 Q q
  simp only [neT, Option.bind_eq_some_iff] at e
  obtain ⟨d, e1, d2, e2, e3⟩ := e
  split at e3
  · rename_i hz
    cases e3
    exact ⟨d, d2, (r1.live s e1).dp (SeqAt.canLay_of_shaped hz.1), (r2.live s e2).dp (SeqAt.canLay_of_shaped hz.2), hz.1, hz.2, q _ H G [] (Ext.refl s) (.p (.bl _))⟩
  · cases e3
def isnT : T → T → Option T := fun a b => match a, b with
  | .p d, .p .none => some (.p (.bool (match d with | .none => true | _ => false)))
  | _, _ => none
def notnT : T → T → Option T := fun a b => match a, b with
  | .p d, .p .none => some (.p (.bool (match d with | .none => false | _ => true)))
  | _, _ => none
theorem r2m_isn : R2M K (fun x y H Q => y = .non ∧ Q (.bl (decide (x = .non))) H) isnT := by
  intro G H t1 t2 t x y F1 F2 e s r1 r2 Q q
  unfold isnT at e
  split at e
  · cases e
    have h2 := r2.pure
    have h1 := r1.pure
    cases h2
    refine ⟨rfl, q _ H G [] (Ext.refl s) (.p ?_)⟩
    cases h1 <;> exact .bl _
  · cases e
theorem r2m_notn : R2M K (fun x y H Q => y = .non ∧ Q (.bl (!decide (x = .non))) H) notnT := by
  intro G H t1 t2 t x y F1 F2 e s r1 r2 Q q
  unfold notnT at e
  split at e
  · cases e
    have h2 := r2.pure
    have h1 := r1.pure
    cases h2
    refine ⟨rfl, q _ H G [] (Ext.refl s) (.p ?_)⟩
    cases h1 <;> exact .bl _
  · cases e
def idxT : T → T → Option T := fun a b => b.int?.bind fun i => match a with
  | .p (.str z) => if z.length ≤ LIM then (atI z.cps.toList i).map fun c => .p (.str ⟨#[c]⟩) else none
  | a => a.kids.bind fun ts => atI ts i
theorem r2m_ix : R2M K (rIx K) idxT := by
  intro G H t1 t2 t x y F1 F2 e s r1 r2 Q q
  simp only [idxT, Option.bind_eq_some_iff] at e
  obtain ⟨i, e1, e2⟩ := e
  split at e2
  · split at e2
    · rename_i z hz
      rw [Option.map_eq_some_iff] at e2
      obtain ⟨c, e3, rfl⟩ := e2
      cases r1.pure
      exact .inr (.inr ⟨z, i, c, rfl, r2.int e1, Nat.le_trans hz LIM_line, e3, q _ H G [] (Ext.refl s) (.p (.str _))⟩)
    · cases e2
  · rw [Option.bind_eq_some_iff] at e2
    obtain ⟨ts, e3, e4⟩ := e2
    obtain ⟨a, vs, rfl, h1, p1⟩ := r1.kids s e3
    obtain ⟨v, F, h2, h3⟩ := p1.at e4
    rcases h1 with h1 | h1
    · exact .inl ⟨a, vs, i, v, rfl, r2.int e1, h1, h2, q v H G F (Ext.refl s) h3⟩
    · exact .inr (.inl ⟨a, vs, i, v, rfl, r2.int e1, h1, h2, q v H G F (Ext.refl s) h3⟩)
def flatD : D → Bool
  | .none | .bool _ | .int _ | .str _ => true
  | _ => false
theorem Rp.flat {G : Hp} {v : V} {d : D} (r : Rp K G v d) (f : flatD d = true) : flatV v = true := by
  cases r <;> first | rfl | simp [flatD] at f
theorem Rp.eqv {G G' : Hp} {v u : V} {d e : D} (r : Rp K G v d) (r' : Rp K G' u e) (f : flatD d = true) (f' : flatD e = true) : eqV v u = PyData.eqv d e := by
  cases r <;> first | (simp [flatD] at f; done) | (cases r' <;> first | (simp [flatD] at f'; done) | simp [eqV, PyData.eqv])
theorem Rps.any {G G' : Hp} {u : V} {e : D} (r' : Rp K G' u e) (f' : flatD e = true) : ∀ {vs : List V} {ds : List D}, Rps K G vs ds → ds.all flatD = true → vs.all flatV = true ∧ inV u vs = ds.any fun z => PyData.eqv z e
  | _, _, .nil, _ => ⟨rfl, rfl⟩
  | _, _, .cons h r, f => by
    rw [List.all_cons, Bool.and_eq_true] at f
    obtain ⟨h1, h2⟩ := Rps.any r' f' r f.2
    refine ⟨by rw [List.all_cons, h.flat f.1, h1]; rfl, ?_⟩
    unfold inV at h2 ⊢
    rw [List.any_cons, List.any_cons, h2, h.eqv r' f.1 f']
def T.any? : T → Option (List D) := fun t => match t.seq? with
  | some ds => some ds
  | none => t.tup?
theorem TR.any {G H : Hp} {t : T} {v : V} {F : List Addr} (r : TR K G H t v F) (s : Same G H) {ds : List D} (e : t.any? = some ds) : ∃ a vs, v = .ref a ∧ (SqL K H a vs ∨ SqT K H a vs) ∧ Rps K G vs ds := by
  unfold T.any? at e
  split at e
  · rename_i e1
    cases e
    obtain ⟨a, vs, h1, h2, h3⟩ := r.seq s e1
    exact ⟨a, vs, h1, .inl h2, h3⟩
  · obtain ⟨a, vs, h1, h2, h3⟩ := r.tup s e
    exact ⟨a, vs, h1, .inr h2, h3⟩
def notInT : T → T → Option T := fun a b => a.pure?.bind fun d => b.any?.bind fun ds => if flatD d = true ∧ ds.all flatD = true then some (.p (.bool (!ds.any fun z => PyData.eqv z d))) else none
theorem TR.of_pure? {G H : Hp} {t : T} {v : V} {F : List Addr} {d : D} (r : TR K G H t v F) (e : t.pure? = some d) : Rp K G v d := by
  cases t with
  | p d' => simp [T.pure?] at e; subst e; exact r.pure
  | _ => simp [T.pure?] at e
theorem r2m_notIn : R2M K (rIn K true) notInT := by
  intro G H t1 t2 t x y F1 F2 e s r1 r2 Q q
  simp only [notInT, Option.bind_eq_some_iff] at e
  obtain ⟨d, e1, ds, e2, e3⟩ := e
  split at e3
  · rename_i hz
    cases e3
    obtain ⟨a, vs, rfl, h1, p1⟩ := r2.any s e2
    have rd := r1.of_pure? e1
    obtain ⟨h2, h3⟩ := Rps.any rd hz.1 p1 hz.2
    refine ⟨a, vs, rfl, h1, rd.flat hz.1, h2, q _ H G [] (Ext.refl s) (.p ?_)⟩
    rw [if_pos rfl, h3]
    exact .bl _
  · cases e3
end
end M
namespace M
open PySem PySem.Spec PyProof.Rows L2

def intsOf : List D → Option (List Int)
  | [] => some []
  | .int i :: r => (intsOf r).map fun ns => i :: ns
  | _ :: _ => none
theorem intsOf_eq : ∀ {ds : List D} {ns : List Int}, intsOf ds = some ns → ds = ns.map PyData.int
  | [], _, e => by cases e; rfl
  | .int i :: r, _, e => by
    simp only [intsOf, Option.map_eq_some_iff] at e
    obtain ⟨ns, e1, rfl⟩ := e
    rw [intsOf_eq e1]; rfl
  | .none :: _, _, e => by simp [intsOf] at e
  | .bool _ :: _, _, e => by simp [intsOf] at e
  | .str _ :: _, _, e => by simp [intsOf] at e
  | .list _ :: _, _, e => by simp [intsOf] at e
  | .tuple _ :: _, _, e => by simp [intsOf] at e
  | .dict _ :: _, _, e => by simp [intsOf] at e
theorem intsOf_map : ∀ ns : List Int, intsOf (ns.map PyData.int) = some ns
  | [] => rfl
  | n :: r => by simp [intsOf, intsOf_map r]
def boolsOf : List D → Option (List Bool)
  | [] => some []
  | .bool i :: r => (boolsOf r).map fun ns => i :: ns
  | _ :: _ => none
theorem boolsOf_eq : ∀ {ds : List D} {ns : List Bool}, boolsOf ds = some ns → ds = ns.map PyData.bool
  | [], _, e => by cases e; rfl
  | .bool i :: r, _, e => by
    simp only [boolsOf, Option.map_eq_some_iff] at e
    obtain ⟨ns, e1, rfl⟩ := e
    rw [boolsOf_eq e1]; rfl
  | .none :: _, _, e => by simp [boolsOf] at e
  | .int _ :: _, _, e => by simp [boolsOf] at e
  | .str _ :: _, _, e => by simp [boolsOf] at e
  | .list _ :: _, _, e => by simp [boolsOf] at e
  | .tuple _ :: _, _, e => by simp [boolsOf] at e
  | .dict _ :: _, _, e => by simp [boolsOf] at e
theorem boolsOf_map : ∀ ns : List Bool, boolsOf (ns.map PyData.bool) = some ns
  | [] => rfl
  | n :: r => by simp [boolsOf, boolsOf_map r]

section
variable {K : PySem.W.Frag} {G H : Hp}
theorem Args.one {t : T} {vs : List V} (r : Args K G H [t] vs) : ∃ v F, vs = [v] ∧ TR K G H t v F := by
  cases r with
  | cons h r => cases r; exact ⟨_, _, rfl, h⟩
theorem Args.two {t u : T} {vs : List V} (r : Args K G H [t, u] vs) : ∃ v w F F', vs = [v, w] ∧ TR K G H t v F ∧ TR K G H u w F' := by
  cases r with
  | cons h r => cases r with
    | cons h' r => cases r; exact ⟨_, _, _, _, rfl, h, h'⟩
end

def lenT : List T → Option T
  | [.p (.str z)] => if z.length ≤ LIM then some (.p (.int z.length)) else none
  | [.md kvs] => some (.p (.int kvs.length))
  | [.p (.dict kvs)] => some (.p (.int kvs.length))
  | [t] => t.kids.map fun ts => .p (.int ts.length)
  | _ => none
def rLenA (K : PySem.W.Frag) : List V → Hp → VK → Prop := fun xs H Q => (∃ x n, xs = [x] ∧ LenV K x H n ∧ Q (.int n) H) ∨ (∃ (a : Addr) (kvs : List (Key × V)), xs = [.ref a] ∧ H a = some (.dK kvs) ∧ Q (.int kvs.length) H)
theorem Rpk.length {K : PySem.W.Frag} {G : Hp} : ∀ {a : List (Key × V)} {b : List (D × D)}, Rpk K G a b → a.length = b.length
  | _, _, .nil => rfl
  | _, _, .cons _ r => by simp [r.length]
theorem KR.length {K : PySem.W.Frag} {G : Hp} : ∀ {a : List (Key × V)} {b : List (Key × D)}, KR K G a b → a.length = b.length
  | _, _, .nil => rfl
  | _, _, .cons _ r => by simp [r.length]
theorem call_lenA {X : Cx} : CallR X (.builtin "len") (rLenA X.K) := call_len.or (by
  intro pins s σ H xs us Q I r h
  obtain ⟨a, kvs, rfl, hd, q⟩ := h
  exact call_lenD pins s σ H _ us Q I r ⟨a, kvs, rfl, hd, q⟩)
section
variable {K : PySem.W.Frag}
theorem cm_len : CM K (rLenA K) lenT := by
  intro G H ts t xs e s r Q q
  unfold lenT at e
  split at e
  · split at e
    · rename_i z hz
      cases e
      obtain ⟨v, F, rfl, h⟩ := r.one
      cases h.pure
      exact .inl ⟨_, _, rfl, ⟨Nat.le_trans hz LIM_line, rfl⟩, q _ H G [] (Ext.refl s) (.p (.int _))⟩
    · cases e
  · cases e
    obtain ⟨v, F, rfl, h⟩ := r.one
    cases h with
    | md h k => exact .inr ⟨_, _, rfl, h, q _ H G [] (Ext.refl s) (.p (by rw [k.length]; exact .int _))⟩
  · cases e
    obtain ⟨v, F, rfl, h⟩ := r.one
    cases h.pure with
    | dct h9 k9 => exact .inr ⟨_, _, rfl, s _ _ h9, q _ H G [] (Ext.refl s) (.p (by rw [k9.length]; exact .int _))⟩
  · rw [Option.map_eq_some_iff] at e
    obtain ⟨ks, e1, rfl⟩ := e
    obtain ⟨v, F, rfl, h⟩ := r.one
    obtain ⟨a, vs, rfl, h1, p1⟩ := h.kids s e1
    refine .inl ⟨_, vs.length, rfl, ?_, q _ H G [] (Ext.refl s) (.p (by rw [p1.length]; exact .int _))⟩
    rcases h1 with h1 | h1
    · exact .inl ⟨vs, h1, rfl⟩
    · exact .inr ⟨vs, h1, rfl⟩
  · cases e
def sumT : List T → Option T
  | [t] => t.seq?.bind fun ds => (intsOf ds).map fun ns => .p (.int ns.sum)
  | _ => none
theorem cm_sum : CM K (rSum K) sumT := by
  intro G H ts t xs e s r Q q
  unfold sumT at e
  split at e
  · simp only [Option.bind_eq_some_iff, Option.map_eq_some_iff] at e
    obtain ⟨ds, e1, ns, e2, rfl⟩ := e
    obtain ⟨v, F, rfl, h⟩ := r.one
    obtain ⟨a, vs, rfl, h1, p1⟩ := h.seq s e1
    rw [intsOf_eq e2] at p1
    rw [p1.ints] at h1
    exact ⟨a, ns, rfl, h1, q _ H G [] (Ext.refl s) (.p (.int _))⟩
  · cases e
def allT : List T → Option T
  | [t] => t.seq?.bind fun ds => (boolsOf ds).map fun ns => .p (.bool (ns.all id))
  | _ => none
theorem cm_all : CM K (rAll K) allT := by
  intro G H ts t xs e s r Q q
  unfold allT at e
  split at e
  · simp only [Option.bind_eq_some_iff, Option.map_eq_some_iff] at e
    obtain ⟨ds, e1, ns, e2, rfl⟩ := e
    obtain ⟨v, F, rfl, h⟩ := r.one
    obtain ⟨a, vs, rfl, h1, p1⟩ := h.seq s e1
    rw [boolsOf_eq e2] at p1
    rw [p1.bls] at h1
    exact ⟨a, ns, rfl, h1, q _ H G [] (Ext.refl s) (.p (.bl _))⟩
  · cases e
def maxI : List Int → Option Int
  | [] => none
  | n :: r => some (r.foldl max n)
def minI : List Int → Option Int
  | [] => none
  | n :: r => some (r.foldl min n)
theorem foldl_max_mem : ∀ (r : List Int) (n : Int), r.foldl max n ∈ n :: r ∧ ∀ y ∈ n :: r, y ≤ r.foldl max n
  | [], n => ⟨by simp, fun y hy => by simp at hy; subst hy; exact Int.le_refl _⟩
  | k :: r, n => by
    obtain ⟨h1, h2⟩ := foldl_max_mem r (max n k)
    simp only [List.foldl_cons]
    refine ⟨?_, fun y hy => ?_⟩
    · rcases List.mem_cons.mp h1 with z | z
      · rw [z]
        rcases Int.le_total n k with h | h
        · rw [Int.max_eq_right h]; simp
        · rw [Int.max_eq_left h]; simp
      · exact List.mem_cons_of_mem _ (List.mem_cons_of_mem _ z)
    · have h3 := h2 (max n k) List.mem_cons_self
      rcases List.mem_cons.mp hy with z | z
      · subst z; exact Int.le_trans (Int.le_max_left _ _) h3
      · rcases List.mem_cons.mp z with z | z
        · subst z; exact Int.le_trans (Int.le_max_right _ _) h3
        · exact h2 y (List.mem_cons_of_mem _ z)
theorem foldl_min_mem : ∀ (r : List Int) (n : Int), r.foldl min n ∈ n :: r ∧ ∀ y ∈ n :: r, r.foldl min n ≤ y
  | [], n => ⟨by simp, fun y hy => by simp at hy; subst hy; exact Int.le_refl _⟩
  | k :: r, n => by
    obtain ⟨h1, h2⟩ := foldl_min_mem r (min n k)
    simp only [List.foldl_cons]
    refine ⟨?_, fun y hy => ?_⟩
    · rcases List.mem_cons.mp h1 with z | z
      · rw [z]
        rcases Int.le_total n k with h | h
        · rw [Int.min_eq_left h]; simp
        · rw [Int.min_eq_right h]; simp
      · exact List.mem_cons_of_mem _ (List.mem_cons_of_mem _ z)
    · have h3 := h2 (min n k) List.mem_cons_self
      rcases List.mem_cons.mp hy with z | z
      · subst z; exact Int.le_trans h3 (Int.min_le_left _ _)
      · rcases List.mem_cons.mp z with z | z
        · subst z; exact Int.le_trans h3 (Int.min_le_right _ _)
        · exact h2 y (List.mem_cons_of_mem _ z)
theorem maxI_spec {ns : List Int} {m : Int} (e : maxI ns = some m) : m ∈ ns ∧ ∀ y ∈ ns, y ≤ m := by
  cases ns with
  | nil => cases e
  | cons n r => cases e; exact foldl_max_mem r n
theorem minI_spec {ns : List Int} {m : Int} (e : minI ns = some m) : m ∈ ns ∧ ∀ y ∈ ns, m ≤ y := by
  cases ns with
  | nil => cases e
  | cons n r => cases e; exact foldl_min_mem r n
def maxT : List T → Option T
  | [t] => t.any?.bind fun ds => (intsOf ds).bind fun ns => (maxI ns).map fun m => .p (.int m)
  | [a, b] => a.int?.bind fun i => b.int?.map fun j => .p (.int (max i j))
  | _ => none
def minT : List T → Option T
  | [t] => t.any?.bind fun ds => (intsOf ds).bind fun ns => (minI ns).map fun m => .p (.int m)
  | [a, b] => a.int?.bind fun i => b.int?.map fun j => .p (.int (min i j))
  | _ => none
def rMaxT (K : PySem.W.Frag) : List V → Hp → VK → Prop := fun vs H Q => ∃ (a : Addr) (ns : List Int) (m : Int), vs = [V.ref a] ∧ SqT K H a (ns.map V.int) ∧ maxI ns = some m ∧ Q (.int m) H
def rMinT (K : PySem.W.Frag) : List V → Hp → VK → Prop := fun vs H Q => ∃ (a : Addr) (ns : List Int) (m : Int), vs = [V.ref a] ∧ SqT K H a (ns.map V.int) ∧ minI ns = some m ∧ Q (.int m) H
theorem reads_ints {h : Heap} : ∀ {ns : List Int} {us : List Value}, Vals (ns.map V.int) us → ReadsAll h us (ns.map PyData.int) []
  | [], _, .nil => .nil
  | n :: r, _, .cons h1 h2 => by
    obtain ⟨t, rfl⟩ := h1
    exact .cons (.int n t) (reads_ints h2)
theorem alike_ints (ns : List Int) : PySem.W.AlikeAll (ns.map PyData.int) := by
  refine ⟨fun x hx y hy => ?_, fun x hx => ?_⟩
  · obtain ⟨i, _, rfl⟩ := List.mem_map.mp hx
    obtain ⟨j, _, rfl⟩ := List.mem_map.mp hy
    rfl
  · obtain ⟨i, _, rfl⟩ := List.mem_map.mp hx
    intro z; cases z
theorem depth_ints : ∀ ns : List Int, PyData.depthAll (ns.map PyData.int) = 0
  | [] => by simp [PyData.depthAll]
  | n :: r => by simp [PyData.depthAll, PyData.depth, depth_ints r]
section
variable {X : Cx}
theorem cr_maxT (hc : X.calm = true) (hu : X.A.units + 64 < cLine) : CallR X (.builtin "max") (rMaxT X.K) := by
  intro pins s σ H vs us Q I r h
  obtain ⟨a, ns, m, rfl, hs, e, q⟩ := h
  cases ns with
  | nil => cases e
  | cons n ns =>
    obtain ⟨its, rv, hl, _⟩ := I.tuple hs
    obtain ⟨u, rfl, hu1⟩ := vals1 r
    cases hu1
    have hd := depth_ints (n :: ns)
    refine PySem.W.max_tuple_data (x := .int n) (xs := ns.map PyData.int) (as := []) (I.ok.hd hc) hl (by simpa using reads_ints (h := s.heap) rv) (alike_ints (n :: ns)) (by
      have : PyData.depthAll (PyData.int n :: ns.map PyData.int) = 0 := hd
      rw [this]; omega) fun i v h' tk bs hi hr hk => ?_
    rw [PySem.W.maxD_ints] at hr
    cases e
    cases hr
    exact ⟨.int _, H, I.kept hk, ⟨_, rfl⟩, q⟩
theorem cr_minT (hc : X.calm = true) (hu : X.A.units + 64 < cLine) : CallR X (.builtin "min") (rMinT X.K) := by
  intro pins s σ H vs us Q I r h
  obtain ⟨a, ns, m, rfl, hs, e, q⟩ := h
  cases ns with
  | nil => cases e
  | cons n ns =>
    obtain ⟨its, rv, hl, _⟩ := I.tuple hs
    obtain ⟨u, rfl, hu1⟩ := vals1 r
    cases hu1
    have hd := depth_ints (n :: ns)
    refine PySem.W.min_tuple_data (x := .int n) (xs := ns.map PyData.int) (as := []) (I.ok.hd hc) hl (by simpa using reads_ints (h := s.heap) rv) (alike_ints (n :: ns)) (by
      have : PyData.depthAll (PyData.int n :: ns.map PyData.int) = 0 := hd
      rw [this]; omega) fun i v h' tk bs hi hr hk => ?_
    rw [PySem.W.minD_ints] at hr
    cases e
    cases hr
    exact ⟨.int _, H, I.kept hk, ⟨_, rfl⟩, q⟩
end
def rMaxA (K : PySem.W.Frag) : List V → Hp → VK → Prop := fun xs H Q => (rMax K xs H Q ∨ rMaxT K xs H Q) ∨ ∃ i j, xs = [.int i, .int j] ∧ Q (.int (if j > i then j else i)) H
def rMinA (K : PySem.W.Frag) : List V → Hp → VK → Prop := fun xs H Q => (rMin K xs H Q ∨ rMinT K xs H Q) ∨ ∃ i j, xs = [.int i, .int j] ∧ Q (.int (if j < i then j else i)) H
theorem cr_maxA {X : Cx} (hc : X.calm = true) (hu : X.A.units + 64 < cLine) : CallR X (.builtin "max") (rMaxA X.K) := ((cr_max hc).or (cr_maxT hc hu)).or (call_max2 hc)
theorem cr_minA {X : Cx} (hc : X.calm = true) (hu : X.A.units + 64 < cLine) : CallR X (.builtin "min") (rMinA X.K) := ((cr_min hc).or (cr_minT hc hu)).or (call_min2 hc)
theorem TR.anyI {G H : Hp} {t : T} {v : V} {F : List Addr} (r : TR K G H t v F) (s : Same G H) {ds : List D} {ns : List Int} (e : t.any? = some ds) (e2 : intsOf ds = some ns) : ∃ a, v = .ref a ∧ (SqL K H a (ns.map V.int) ∨ SqT K H a (ns.map V.int)) := by
  obtain ⟨a, vs, rfl, h1, p1⟩ := r.any s e
  rw [intsOf_eq e2] at p1
  rw [p1.ints] at h1
  exact ⟨a, rfl, h1⟩
theorem cm_max : CM K (rMaxA K) maxT := by
  intro G H ts t xs e s r Q q
  unfold maxT at e
  split at e
  · simp only [Option.bind_eq_some_iff, Option.map_eq_some_iff] at e
    obtain ⟨ds, e1, ns, e2, m, e3, rfl⟩ := e
    obtain ⟨v, F, rfl, h⟩ := r.one
    obtain ⟨a, rfl, h1 | h1⟩ := h.anyI s e1 e2
    · obtain ⟨m1, m2⟩ := maxI_spec e3
      refine .inl (.inl ⟨a, ns, rfl, h1, List.length_pos_of_mem m1, fun m' p1 p2 => ?_⟩)
      have : m' = m := Int.le_antisymm (m2 _ p1) (p2 _ m1)
      subst this
      exact q _ H G [] (Ext.refl s) (.p (.int _))
    · exact .inl (.inr ⟨a, ns, m, rfl, h1, e3, q _ H G [] (Ext.refl s) (.p (.int _))⟩)
  · simp only [Option.bind_eq_some_iff, Option.map_eq_some_iff] at e
    obtain ⟨i, e1, j, e2, rfl⟩ := e
    obtain ⟨v, w, F, F', rfl, h1, h2⟩ := r.two
    rw [h1.int e1, h2.int e2]
    refine .inr ⟨i, j, rfl, ?_⟩
    have : (if j > i then j else i) = max i j := by
      rw [Int.max_def]
      split <;> split <;> omega
    rw [this]
    exact q _ H G [] (Ext.refl s) (.p (.int _))
  · cases e
theorem cm_min : CM K (rMinA K) minT := by
  intro G H ts t xs e s r Q q
  unfold minT at e
  split at e
  · simp only [Option.bind_eq_some_iff, Option.map_eq_some_iff] at e
    obtain ⟨ds, e1, ns, e2, m, e3, rfl⟩ := e
    obtain ⟨v, F, rfl, h⟩ := r.one
    obtain ⟨a, rfl, h1 | h1⟩ := h.anyI s e1 e2
    · obtain ⟨m1, m2⟩ := minI_spec e3
      refine .inl (.inl ⟨a, ns, rfl, h1, List.length_pos_of_mem m1, fun m' p1 p2 => ?_⟩)
      have : m' = m := Int.le_antisymm (p2 _ m1) (m2 _ p1)
      subst this
      exact q _ H G [] (Ext.refl s) (.p (.int _))
    · exact .inl (.inr ⟨a, ns, m, rfl, h1, e3, q _ H G [] (Ext.refl s) (.p (.int _))⟩)
  · simp only [Option.bind_eq_some_iff, Option.map_eq_some_iff] at e
    obtain ⟨i, e1, j, e2, rfl⟩ := e
    obtain ⟨v, w, F, F', rfl, h1, h2⟩ := r.two
    rw [h1.int e1, h2.int e2]
    refine .inr ⟨i, j, rfl, ?_⟩
    have : (if j < i then j else i) = min i j := by
      rw [Int.min_def]
      split <;> split <;> omega
    rw [this]
    exact q _ H G [] (Ext.refl s) (.p (.int _))
  · cases e
def absT : List T → Option T
  | [a] => a.int?.map fun i => .p (.int (if i < 0 then -i else i))
  | _ => none
theorem cm_abs : CM K (fun xs H Q => ∃ i, xs = [.int i] ∧ Q (.int (if i < 0 then -i else i)) H) absT := by
  intro G H ts t xs e s r Q q
  unfold absT at e
  split at e
  · rw [Option.map_eq_some_iff] at e
    obtain ⟨i, e1, rfl⟩ := e
    obtain ⟨v, F, rfl, h⟩ := r.one
    rw [h.int e1]
    exact ⟨i, rfl, q _ H G [] (Ext.refl s) (.p (.int _))⟩
  · cases e
def listT : List T → Option T
  | [a] => a.any?.bind fun ds => some (.p (.list ds))
  | _ => none
def tupleT : List T → Option T
  | [a] => match a.seq? with
    | some ds => some (.p (.tuple ds))
    | none => a.ptup?.bind fun ds => some (.p (.tuple ds))
  | _ => none
theorem cm_tuple : CM K (fun xs H Q => ∃ p ys, xs = [.ref p] ∧ ((SqL K H p ys ∧ ∀ l, H l = none → Q (.ref l) (upd H l (.tup ys))) ∨ (SqT K H p ys ∧ Q (.ref p) H))) tupleT := by
  intro G H ts t xs e s r Q q
  unfold tupleT at e
  split at e
  · split at e
    · rename_i ds e1
      cases e
      obtain ⟨v, F, rfl, h⟩ := r.one
      obtain ⟨a, vs, rfl, h1, p1⟩ := h.seq s e1
      refine ⟨a, vs, rfl, .inl ⟨h1, fun l nl => ?_⟩⟩
      have x2 := Ext.new (o := .tup vs) s nl
      exact q _ _ _ [] x2 (.p (.tup (.inl (.inl upd_same)) (p1.mono x2.gg)))
    · simp only [Option.bind_eq_some_iff] at e
      obtain ⟨ds, e1, e2⟩ := e
      cases e2
      obtain ⟨v, F, rfl, h⟩ := r.one
      obtain ⟨a, vs, rfl, h1, p1⟩ := h.ptup e1
      exact ⟨a, vs, rfl, .inr ⟨Same.seqT s h1, q _ H G [] (Ext.refl s) (.p (.tup h1 p1))⟩⟩
  · cases e
def intT : List T → Option T
  | [.p (.int i)] => some (.p (.int i))
  | [.p (.bool k)] => some (.p (.int (if k then 1 else 0)))
  | [.p (.str z)] => (PySem.intText? z).bind fun n => if z.length ≤ 640 then some (.p (.int n)) else none
  | _ => none
def rIntA : List V → Hp → VK → Prop := fun xs H Q => ((∃ i, xs = [.int i] ∧ Q (.int i) H) ∨ ∃ k, xs = [.bl k] ∧ Q (.int (if k then 1 else 0)) H) ∨ ∃ a n, xs = [.str a] ∧ PySem.intText? a = some n ∧ a.length ≤ 640 ∧ Q (.int n) H
theorem call_intA {X : Cx} : CallR X (.type "int") rIntA := call_int1.or call_int_str
theorem cm_int : CM K rIntA intT := by
  intro G H ts t xs e s r Q q
  unfold intT at e
  split at e
  · cases e
    obtain ⟨v, F, rfl, h⟩ := r.one
    cases h.pure
    exact .inl (.inl ⟨_, rfl, q _ H G [] (Ext.refl s) (.p (.int _))⟩)
  · cases e
    obtain ⟨v, F, rfl, h⟩ := r.one
    cases h.pure
    exact .inl (.inr ⟨_, rfl, q _ H G [] (Ext.refl s) (.p (.int _))⟩)
  · rw [Option.bind_eq_some_iff] at e
    obtain ⟨n, e1, e2⟩ := e
    split at e2
    · rename_i hz
      cases e2
      obtain ⟨v, F, rfl, h⟩ := r.one
      cases h.pure
      exact .inr ⟨_, n, rfl, e1, hz, q _ H G [] (Ext.refl s) (.p (.int _))⟩
    · cases e2
  · cases e
end

def tyN : D → String
  | .none => "NoneType"
  | .bool _ => "bool"
  | .int _ => "int"
  | .str _ => "str"
  | .list _ => "list"
  | .tuple _ => "tuple"
  | .dict _ => "dict"
def isi (a b : String) : Bool := a == b || (a == "bool" && b == "int")
def isiT (n : String) : T → Option T := fun t => t.snap.map fun d => .p (.bool (isi (tyN d) n))
def mIsi (n : String) (m : EM) : EM := fun env => (m env).bind (isiT n)
def cutL {α : Type} (xs : List α) (lo hi : Option Int) : List α := (xs.drop (HT.sIx xs.length 0 lo)).take (HT.sIx xs.length xs.length hi - HT.sIx xs.length 0 lo)
abbrev OM := En → Option (Option Int)
def oNone : OM := fun _ => some none
def oSome (m : EM) : OM := fun env => (m env).bind fun t => t.int?.map some
def sliceT (t : T) (lo hi : Option Int) : Option T := match t.seq? with
  | some ds => some (.p (.list (cutL ds lo hi)))
  | none => match t.ptup? with
    | some ds => some (.p (.tuple (cutL ds lo hi)))
    | none => match t with
      | .p (.str z) => if z.length ≤ LIM then some (.p (.str (cutS z lo hi))) else none
      | _ => none
def mSlice (m : EM) (lo hi : OM) : EM := fun env => (m env).bind fun t => (lo env).bind fun a => (hi env).bind fun b => sliceT t a b
theorem Rps.cut {K : PySem.W.Frag} {G : Hp} {vs : List V} {ds : List D} (r : Rps K G vs ds) (lo hi : Option Int) : Rps K G (cutV vs lo hi) (cutL ds lo hi) := by
  unfold cutV cutL
  rw [r.length]
  exact (r.drop _).take _
def rSlAll (K : PySem.W.Frag) : V → Option Int → Option Int → Hp → VK → Prop := fun x lo hi H Q => (rSlL K x lo hi H Q ∨ rSlA K x lo hi H Q) ∨ rSlS x lo hi H Q
theorem sl_all {X : Cx} : SlR X (rSlAll X.K) := (sl_list.or sl_tupA).or sl_str
def tOM (K : PySem.W.Frag) (m : OM) : TO := fun σ H Q => ∃ G env F, Rel K G H env σ F ∧ ∃ o, m env = some o ∧ ∀ H' G', Ext G H G' H' → Q o H'
theorem PO_imp {X : Cx} {e : Option Expr} {t t' : TO} (h : PO X e t) (i : ∀ σ H Q, t' σ H Q → t σ H Q) : PO X e t' := ⟨fun pins s σ H Q I q => h.run pins s σ H Q I (i σ H Q q)⟩
abbrev POM (X : Cx) (e : Option Expr) (m : OM) : Prop := PO X e (tOM X.K m)
section
variable {X : Cx} {e : Expr} {me : EM} {lo hi : Option Expr} {ml mh : OM} {pos p2 : Pos}
theorem pom_none : POM X none oNone := PO_imp po_none fun σ H Q h => by
  obtain ⟨G, env, F, rel, o, e1, q⟩ := h
  cases e1
  exact q H G (Ext.refl rel.sm)
theorem pom_some (h : PM X e me) : POM X (some e) (oSome me) := PO_imp (po_some h) fun σ H Q h => by
  obtain ⟨G, env, F, rel, o, e1, q⟩ := h
  simp only [oSome, Option.bind_eq_some_iff, Option.map_eq_some_iff] at e1
  obtain ⟨t, e2, i, e3, rfl⟩ := e1
  exact ⟨G, env, F, rel, t, e2, fun v H' G' F' x r => ⟨i, r.int e3, q H' G' x⟩⟩
theorem pm_slice (he : PM X e me) (hl : POM X lo ml) (hh : POM X hi mh) : PM X (.Subscript e (.Slice lo hi none p2) pos) (mSlice me ml mh) := by
  refine PE_imp (pe_slice sl_all he hl hh) fun σ H Q h => ?_
  obtain ⟨G, env, F, rel, t, e1, q⟩ := h
  simp only [mSlice, Option.bind_eq_some_iff] at e1
  obtain ⟨t1, e2, a, e3, b, e4, e5⟩ := e1
  refine ⟨G, env, F, rel, t1, e2, fun x H1 G1 F1 x1 r1 => ⟨G1, env, F, rel.ext x1, a, e3, fun H2 G2 x2 => ⟨G2, env, F, (rel.ext x1).ext x2, b, e4, fun H3 G3 x3 => ?_⟩⟩⟩
  have x23 := x2.trans x3
  have x13 := x1.trans x23
  have r3 := r1.keep x23.gg (Keep.of x23.hh)
  unfold sliceT at e5
  split at e5
  · rename_i ds e6
    cases e5
    obtain ⟨p, vs, rfl, h1, p1⟩ := r3.seq x3.gh e6
    refine .inl (.inl ⟨p, vs, rfl, h1, fun l nl => ?_⟩)
    have x4 := Ext.new (o := .lst (cutV vs a b)) x3.gh nl
    exact q _ _ _ [] (x13.trans x4) (.p (.lst upd_same ((p1.cut a b).mono x4.gg)))
  · split at e5
    · rename_i ds e6
      cases e5
      obtain ⟨p, vs, rfl, h1, p1⟩ := r3.ptup e6
      refine .inl (.inr ⟨p, vs, rfl, Same.seqT x3.gh h1, fun z => ?_, fun _ l nl => ?_⟩)
      · have e7 : cutL ds a b = ds := by
          unfold cutL
          rw [← p1.length, z.1, z.2, p1.length]
          simp
        rw [e7] at q
        exact q _ H3 G3 [] x13 (.p (.tup h1 p1))
      · have x4 := Ext.new (o := .tup (cutV vs a b)) x3.gh nl
        exact q _ _ _ [] (x13.trans x4) (.p (.tup (.inl (.inl upd_same)) ((p1.cut a b).mono x4.gg)))
    · split at e5
      · split at e5
        · rename_i hz
          cases e5
          cases r3.pure
          exact .inr ⟨_, rfl, Nat.le_trans hz LIM_line, q _ H3 G3 [] x13 (.p (.str _))⟩
        · cases e5
      · cases e5
/-- -1 -/
def mNeg (m : EM) : EM := fun env => (m env).bind fun t => t.int?.map fun i => .p (.int (-i))
theorem pm_neg (he : PM X e me) : PM X (.UnaryOp .USub e pos) (mNeg me) := by
  refine PE_imp (pe_un un_neg he) fun σ H Q h => ?_
  obtain ⟨G, env, F, rel, t, e1, q⟩ := h
  simp only [mNeg, Option.bind_eq_some_iff, Option.map_eq_some_iff] at e1
  obtain ⟨t1, e2, i, e3, rfl⟩ := e1
  exact ⟨G, env, F, rel, t1, e2, fun x H1 G1 F1 x1 r1 => ⟨i, r1.int e3, q _ H1 G1 [] x1 (.p (.int _))⟩⟩
/-- list(range(n)), list(range(a, b)) -/
def rangeD (lo hi : Int) : List D := (List.range (hi - lo).toNat).map fun (k : Nat) => PyData.int (lo + (k : Int))
theorem Rps.rng {K : PySem.W.Frag} {G : Hp} (lo hi : Int) : Rps K G (rgV lo hi) (rangeD lo hi) := by
  unfold rgV rangeD
  generalize List.range (hi - lo).toNat = l
  induction l with
  | nil => exact .nil
  | cons k r ih => exact .cons (.int _) ih
def mListR1 (m : EM) : EM := fun env => (m env).bind fun t => t.int?.bind fun j => if j ≤ 1000000 ∧ -1000000 ≤ j then some (.p (.list (rangeD 0 j))) else none
theorem pm_listR1 {p p3 : Pos} (hc : X.calm = true) (hg : Gl X "list") (hm : X.mg "list" = none) (hg2 : Gl X "range") (hm2 : X.mg "range" = none) (he : PM X e me) (na : starEach [e] X.env = (false, eval e X.env) :: starEach [] X.env := by rfl) :
    PM X (.Call (.Name "list" p) [.Call (.Name "range" p2) [e] [] p3] [] pos) (mListR1 me) := by
  refine PE_imp (pe_listRg hc hg hm (prg_1 hg2 hm2 he na)) fun σ H Q h => ?_
  obtain ⟨G, env, F, rel, t, e1, q⟩ := h
  simp only [mListR1, Option.bind_eq_some_iff] at e1
  obtain ⟨t1, e2, j, e3, e4⟩ := e1
  split at e4
  · rename_i hz
    cases e4
    refine ⟨G, env, F, rel, t1, e2, fun x H1 G1 F1 x1 r1 => ?_⟩
    refine ⟨j, r1.int e3, ⟨by omega, by omega, by omega, by omega, by omega⟩, fun l nl => ?_⟩
    have x4 := Ext.new (o := .lst (rgV 0 j)) x1.gh nl
    exact q _ _ _ [] (x1.trans x4) (.p (.lst upd_same (Rps.rng 0 j)))
  · cases e4
end
end M
namespace M
open PySem PySem.Spec PyProof.Rows L2

/-- σ' is σ but for the slots js -/
def Only (js : List Nat) (σ σ' : L2.St) : Prop := σ'.length = σ.length ∧ ∀ i, i ∉ js → σ'[i]? = σ[i]?
theorem Only.refl (js : List Nat) (σ : L2.St) : Only js σ σ := ⟨rfl, fun _ _ => rfl⟩
theorem Only.trans {js : List Nat} {a b c : L2.St} (x : Only js a b) (y : Only js b c) : Only js a c := ⟨y.1.trans x.1, fun i h => (y.2 i h).trans (x.2 i h)⟩
theorem Only.mono {js ks : List Nat} {a b : L2.St} (x : Only js a b) (h : ∀ j ∈ js, j ∈ ks) : Only ks a b := ⟨x.1, fun i hi => x.2 i fun z => hi (h i z)⟩
theorem Only.set {σ : L2.St} {i : Nat} {o : Option V} : Only [i] σ (σ.set i o) := ⟨List.length_set, fun j h => by
  rw [List.getElem?_set_ne]
  intro z
  exact h (by simp [z])⟩
theorem wipe_get (σ : L2.St) : ∀ (vs : List Nat) (i : Nat), (wipe σ vs)[i]? = if i ∈ vs then (if i < σ.length then some none else none) else σ[i]?
  | [], i => by simp [wipe]
  | v :: vs, i => by
    unfold wipe
    by_cases h : v = i
    · subst h
      rw [List.getElem?_set_self']
      rw [wipe_get σ vs v]
      simp only [List.mem_cons, true_or, if_true]
      by_cases hv : v < σ.length
      · rw [if_pos hv]
        split
        · rfl
        · rw [List.getElem?_eq_getElem hv]; rfl
      · rw [if_neg hv]
        split
        · rfl
        · rw [List.getElem?_eq_none (by omega)]; rfl
    · rw [List.getElem?_set_ne h, wipe_get σ vs i]
      have : (i ∈ v :: vs) ↔ i ∈ vs := by
        simp only [List.mem_cons]
        constructor
        · intro z
          rcases z with z | z
          · exact absurd z.symm h
          · exact z
        · exact .inr
      simp only [this]
theorem Only.wipe {js vs : List Nat} {a b : L2.St} (x : Only js a b) (h : ∀ j ∈ js, j ∈ vs) : L2.wipe b vs = L2.wipe a vs := by
  apply List.ext_getElem?
  intro i
  rw [wipe_get, wipe_get, x.1]
  by_cases hi : i ∈ vs
  · rw [if_pos hi, if_pos hi]
  · rw [if_neg hi, if_neg hi]
    exact x.2 i fun z => hi (h i z)
def wipeE (env : En) : List Nat → En
  | [] => env
  | v :: vs => (wipeE env vs).set v none
theorem ES.wipe {K : PySem.W.Frag} {G H : Hp} {env : En} {σ : L2.St} {F : List Addr} (r : ES K G H env σ F) : ∀ vs : List Nat, ∃ F', ES K G H (wipeE env vs) (L2.wipe σ vs) F' ∧ F'.Sublist F
  | [] => ⟨F, r, List.Sublist.refl _⟩
  | v :: vs => by
    obtain ⟨F1, h1, h2⟩ := ES.wipe r vs
    obtain ⟨F2, h3, h4⟩ := ES.drop v none h1
    exact ⟨F2, h3, h4.trans h2⟩
theorem Rel.wipe {K : PySem.W.Frag} {G H : Hp} {env : En} {σ : L2.St} {F : List Addr} (r : Rel K G H env σ F) (vs : List Nat) : ∃ F', Rel K G H (wipeE env vs) (L2.wipe σ vs) F' := by
  obtain ⟨F', h1, h2⟩ := r.es.wipe vs
  exact ⟨F', h1, r.nd.sublist h2, fun a ha => r.fr a (h2.subset ha), r.sm⟩
/-- a pure value is put into a slot -/
theorem Rel.putp {K : PySem.W.Frag} {G H : Hp} {env : En} {σ : L2.St} {F : List Addr} (r : Rel K G H env σ F) (i : Nat) {v : V} {d : D} (h : Rp K G v d) : ∃ F', Rel K G H (env.set i (some (.p d))) (σ.set i (some v)) F' ∧ ∀ a ∈ F', a ∈ F := by
  obtain ⟨F', h1, h2, h3⟩ := ES.put (TR.p (H := H) h) i r.es
  have h4 : ∀ a ∈ F', a ∈ F := fun a ha => (h2 a ha).elim (fun z => nomatch z) id
  exact ⟨F', ⟨h1, h3 r.nd .nil (fun _ z => nomatch z), fun a ha => r.fr a (h4 a ha), r.sm⟩, h4⟩

def gM (K : PySem.W.Frag) (js : List Nat) (g : D → En → Option En) : TG := fun v σ H Q => ∃ G env F d, Rel K G H env σ F ∧ Rp K G v d ∧ ∃ env', g d env = some env' ∧ ∀ σ' F', Rel K G H env' σ' F' → (∀ a ∈ F', a ∈ F) → Only js σ σ' → Q σ' H
abbrev GM (X : Cx) (tg : Expr) (js : List Nat) (g : D → En → Option En) : Prop := PG X tg (gM X.K js g)
def gsM (K : PySem.W.Frag) (js : List Nat) (g : List D → En → Option En) : TGs := fun vs σ H Q => ∃ G env F ds, Rel K G H env σ F ∧ Rps K G vs ds ∧ ∃ env', g ds env = some env' ∧ ∀ σ' F', Rel K G H env' σ' F' → (∀ a ∈ F', a ∈ F) → Only js σ σ' → Q σ' H
abbrev GsM (X : Cx) (tg : List Expr) (js : List Nat) (g : List D → En → Option En) : Prop := PGs X tg (gsM X.K js g)
theorem PG_imp {X : Cx} {e : Expr} {t t' : TG} (h : PG X e t) (i : ∀ v σ H Q, t' v σ H Q → t v σ H Q) : PG X e t' := ⟨fun pins s σ H v u Q I r q => h.run pins s σ H v u Q I r (i v σ H Q q)⟩
theorem PGs_imp {X : Cx} {e : List Expr} {t t' : TGs} (h : PGs X e t) (i : ∀ v σ H Q, t' v σ H Q → t v σ H Q) : PGs X e t' := ⟨fun pins s σ H v u Q I r q => h.run pins s σ H v u Q I r (i v σ H Q q)⟩
def gNm (i : Nat) : D → En → Option En := fun d env => some (env.set i (some (.p d)))
def gNl : List D → En → Option En
  | [], env => some env
  | _ :: _, _ => none
def gCn (g : D → En → Option En) (gs : List D → En → Option En) : List D → En → Option En
  | [], _ => none
  | d :: r, env => (g d env).bind fun e => gs r e
def gTp (gs : List D → En → Option En) : D → En → Option En
  | .tuple ds, env => gs ds env
  | _, _ => none
section
variable {X : Cx} {pos : Pos}
theorem gm_name {i : Nat} {x : Str} (hN : X.N.Nodup) (hi : X.N[i]? = some x := by rfl) (hx : Loc X.env.scope x := by first | exact Or.inl rfl | exact Or.inr rfl) (hf : X.fn x = true ∨ X.env.scope.names.lookup x = some .local := by first | exact .inl rfl | exact .inr rfl | assumption) : GM X (.Name x pos) [i] (gNm i) := by
  refine PG_imp (pg_name (i := i) hN hi hx hf) fun v σ H Q h => ?_
  obtain ⟨G, env, F, d, rel, r, env', e, q⟩ := h
  cases e
  obtain ⟨F', h1, h2⟩ := rel.putp i r
  exact q _ F' h1 h2 Only.set
theorem gsm_nil : GsM X [] [] gNl := by
  refine PGs_imp pgs_nil fun vs σ H Q h => ?_
  obtain ⟨G, env, F, ds, rel, r, env', e, q⟩ := h
  cases r with
  | nil => cases e; exact ⟨rfl, q _ F rel (fun _ z => z) (Only.refl _ _)⟩
  | cons _ _ => cases e
theorem gsm_cons {e : Expr} {es : List Expr} {js ks : List Nat} {g : D → En → Option En} {gs : List D → En → Option En} (h1 : GM X e js g) (h2 : GsM X es ks gs)
    (hs : (assignEach (e :: es) X.env).map (·.2) = assign e X.env :: (assignEach es X.env).map (·.2) := by rfl) : GsM X (e :: es) (js ++ ks) (gCn g gs) := by
  refine PGs_imp (pgs_cons h1 h2 hs) fun vs σ H Q h => ?_
  obtain ⟨G, env, F, ds, rel, r, env', e, q⟩ := h
  cases r with
  | nil => cases e
  | cons r1 r2 =>
    simp only [gCn, Option.bind_eq_some_iff] at e
    obtain ⟨e1, e2, e3⟩ := e
    refine ⟨_, _, rfl, G, env, F, _, rel, r1, e1, e2, fun σ1 F1 rel1 s1 o1 => ?_⟩
    exact ⟨G, e1, F1, _, rel1, r2, env', e3, fun σ2 F2 rel2 s2 o2 => q σ2 F2 rel2 (fun a ha => s1 a (s2 a ha)) ((o1.mono fun j hj => List.mem_append_left _ hj).trans (o2.mono fun j hj => List.mem_append_right _ hj))⟩
def GLen (gs : List D → En → Option En) (n : Nat) : Prop := ∀ ds env env', gs ds env = some env' → ds.length = n
theorem gl_nil : GLen gNl 0 := fun ds env env' h => by
  cases ds with
  | nil => rfl
  | cons _ _ => cases h
theorem gl_cons {g : D → En → Option En} {gs : List D → En → Option En} {n : Nat} (h : GLen gs n) : GLen (gCn g gs) (n + 1) := fun ds env env' e => by
  cases ds with
  | nil => cases e
  | cons d r =>
    simp only [gCn, Option.bind_eq_some_iff] at e
    obtain ⟨_, _, e⟩ := e
    rw [List.length_cons, h _ _ _ e]
theorem gm_tup {es : List Expr} {k n : Nat} {js : List Nat} {gs : List D → En → Option En} (hc : X.calm = true) (h : GsM X es js gs) (hl : GLen gs n) (hn : (assignEach es X.env).length = n := by rfl) (hst : (assignEach es X.env).findIdx? (·.1) = none := by rfl) : GM X (.Tuple es k pos) js (gTp gs) := by
  refine PG_imp (pg_tup hc h hn hst) fun v σ H Q h => ?_
  obtain ⟨G, env, F, d, rel, r, env', e, q⟩ := h
  cases r with
  | tup h1 h2 =>
    rename_i a xs ds
    exact ⟨a, xs, rfl, Same.seqT rel.sm h1, by rw [h2.length]; exact hl ds env env' e, G, env, F, ds, rel, h2, env', e, q⟩
  | _ => cases e
end

/-- .. its items frozen in G0 -/
structure Wk2 (K : PySem.W.Frag) (B G0 : Hp) (J : It) (ds : List D) : Prop where
  go : ∀ i H, Same B H → i < ds.length → J.go i H
  stop : ∀ i H, Same B H → ds.length ≤ i → J.stop i H
  yld : ∀ i H x H' G d, Same B H → Same G0 G → Same G H → J.yld i H x H' → ds[i]? = some d → ∃ G', Ext G H G' H' ∧ Rp K G' x d
/-- fz: the source is frozen -/
def iM (K : PySem.W.Frag) (fz : Bool) (mi : En → Option (List D)) : TI := fun σ H R => ∃ G env F, Rel K G H env σ F ∧ ∃ ds, mi env = some ds ∧ ∀ J H' G', Ext G H G' H' → Wk2 K (if fz then G' else H') G' J ds → R J H'
abbrev PIM (X : Cx) (tg iter : Expr) (fz : Bool) (mi : En → Option (List D)) : Prop := PI X tg iter (iM X.K fz mi)
theorem PI_imp {X : Cx} {tg e : Expr} {t t' : TI} (h : PI X tg e t) (i : ∀ σ H Q, t' σ H Q → t σ H Q) : PI X tg e t' := ⟨fun pins s σ H Q I q => h.run pins s σ H Q I (i σ H Q q)⟩
theorem PI_or {X : Cx} {tg e : Expr} {t t' : TI} (h : PI X tg e t) (h' : PI X tg e t') : PI X tg e (fun σ H R => t σ H R ∨ t' σ H R) := ⟨fun pins s σ H Q I q => by
  rcases q with q | q
  · exact h.run pins s σ H Q I q
  · exact h'.run pins s σ H Q I q⟩
section
variable {K : PySem.W.Frag} {B G0 : Hp}
theorem wk_list {a : Addr} {vs : List V} {ds : List D} (h : SqL K B a vs) (r : Rps K G0 vs ds) : Wk2 K B G0 (Itl K a) ds where
  go := fun i H s hi => by
    have hi' : i < vs.length := by rw [r.length]; exact hi
    exact ⟨vs, vs[i], s.seq h, by simp [hi']⟩
  stop := fun i H s hi => ⟨vs, s.seq h, by rw [r.length]; exact hi⟩
  yld := fun i H x H' G d s s0 sg y e => by
    obtain ⟨rfl, y⟩ := y
    obtain ⟨v, h1, h2⟩ := r.get e
    rw [y vs (s.seq h)] at h1
    cases h1
    exact ⟨G, Ext.refl sg, h2.mono s0⟩
theorem wk_tup {a : Addr} {vs : List V} {ds : List D} (h : SqT K B a vs) (r : Rps K G0 vs ds) : Wk2 K B G0 (Itt K a) ds where
  go := fun i H s hi => by
    have hi' : i < vs.length := by rw [r.length]; exact hi
    exact ⟨vs, vs[i], Same.seqT s h, by simp [hi']⟩
  stop := fun i H s hi => ⟨vs, Same.seqT s h, by rw [r.length]; exact hi⟩
  yld := fun i H x H' G d s s0 sg y e => by
    obtain ⟨rfl, y⟩ := y
    obtain ⟨v, h1, h2⟩ := r.get e
    rw [y vs (Same.seqT s h)] at h1
    cases h1
    exact ⟨G, Ext.refl sg, h2.mono s0⟩
theorem wk_range {lo : Int} {n : Nat} : Wk2 K B G0 (Itr lo n) ((List.range n).map fun (k : Nat) => PyData.int (lo + (k : Int))) where
  go := fun i H s hi => by
    have : i < n := by simpa using hi
    exact this
  stop := fun i H s hi => by
    have : n ≤ i := by simpa using hi
    exact this
  yld := fun i H x H' G d s s0 sg y e => by
    obtain ⟨rfl, rfl⟩ := y
    rw [List.getElem?_map] at e
    rw [Option.map_eq_some_iff] at e
    obtain ⟨k, e1, rfl⟩ := e
    have : k = i := by
      rw [List.getElem?_eq_some_iff] at e1
      obtain ⟨_, e2⟩ := e1
      simpa using e2.symm
    subst this
    exact ⟨G, Ext.refl sg, .int _⟩
end
section
variable {X : Cx} {tg : Expr} {e e2 : Expr} {me me2 : EM} {pos p : Pos}
/-- for x in e: a list, a tuple, the script; frozen -/
def T.fz? : T → Option (List D)
  | .p (.list ds) => some ds
  | .p (.tuple ds) => some ds
  | .sc ns => some (ns.map PyData.int)
  | _ => none
/-- a frozen list -/
def T.fzl? : T → Option (List D)
  | .p (.list ds) => some ds
  | .sc ns => some (ns.map PyData.int)
  | _ => none
theorem TR.fzl {K : PySem.W.Frag} {G H : Hp} {t : T} {v : V} {F : List Addr} (r : TR K G H t v F) {ds : List D} (e : t.fzl? = some ds) : ∃ a vs, v = .ref a ∧ SqL K G a vs ∧ Rps K G vs ds := by
  cases r with
  | p h =>
    cases h with
    | lst h r => simp [T.fzl?] at e; subst e; exact ⟨_, _, rfl, .inl (.inl h), r⟩
    | _ => simp [T.fzl?] at e
  | sc h => simp only [T.fzl?, Option.some.injEq] at e; subst e; exact ⟨_, _, rfl, h, Rps.of_ints _⟩
  | _ => simp [T.fzl?] at e
def iSeq (me : EM) : En → Option (List D) := fun env => (me env).bind T.fz?
def iSeqB (me : EM) : En → Option (List D) := fun env => (me env).bind T.any?
theorem pim_seq (he : PM X e me) : PIM X tg e true (iSeq me) := by
  refine PI_imp (PI_or (pi_list he) (pi_tup he)) fun σ H R h => ?_
  obtain ⟨G, env, F, rel, ds, e1, q⟩ := h
  simp only [iSeq, Option.bind_eq_some_iff] at e1
  obtain ⟨t, e2, e3⟩ := e1
  cases t with
  | p d =>
    cases d with
    | list ds' =>
      simp only [T.fz?, Option.some.injEq] at e3; subst e3
      refine .inl ⟨G, env, F, rel, _, e2, fun v H' G' F' x r => ?_⟩
      cases r.pure with
      | lst h1 h2 => exact ⟨_, rfl, ⟨_, .inl (.inl (x.gh _ _ h1))⟩, q _ H' G' x (wk_list (.inl (.inl h1)) h2)⟩
    | tuple ds' =>
      simp only [T.fz?, Option.some.injEq] at e3; subst e3
      refine .inr ⟨G, env, F, rel, _, e2, fun v H' G' F' x r => ?_⟩
      cases r.pure with
      | tup h1 h2 => exact ⟨_, rfl, ⟨_, Same.seqT x.gh h1⟩, q _ H' G' x (wk_tup h1 h2)⟩
    | _ => simp [T.fz?] at e3
  | sc ns =>
    simp only [T.fz?, Option.some.injEq] at e3; subst e3
    refine .inl ⟨G, env, F, rel, _, e2, fun v H' G' F' x r => ?_⟩
    cases r with
    | sc h1 => exact ⟨_, rfl, ⟨_, x.gh.seq h1⟩, q _ H' G' x (wk_list h1 (Rps.of_ints ns))⟩
  | _ => simp [T.fz?] at e3
/-- .. borrowed: a comprehension's -/
theorem pim_seqB (he : PM X e me) : PIM X tg e false (iSeqB me) := by
  refine PI_imp (PI_or (pi_list he) (pi_tup he)) fun σ H R h => ?_
  obtain ⟨G, env, F, rel, ds, e1, q⟩ := h
  simp only [iSeqB, Option.bind_eq_some_iff] at e1
  obtain ⟨t, e2, e3⟩ := e1
  unfold T.any? at e3
  split at e3
  · rename_i e4
    cases e3
    refine .inl ⟨G, env, F, rel, _, e2, fun v H' G' F' x r => ?_⟩
    obtain ⟨a, vs, rfl, h1, p1⟩ := r.seq x.gh e4
    exact ⟨_, rfl, ⟨_, h1⟩, q _ H' G' x (wk_list h1 p1)⟩
  · refine .inr ⟨G, env, F, rel, _, e2, fun v H' G' F' x r => ?_⟩
    obtain ⟨a, vs, rfl, h1, p1⟩ := r.tup x.gh e3
    exact ⟨_, rfl, ⟨_, h1⟩, q _ H' G' x (wk_tup h1 p1)⟩
def smallI (j : Int) : Prop := -1000000 ≤ j ∧ j ≤ 1000000
noncomputable instance (j : Int) : Decidable (smallI j) := Classical.propDecidable _
noncomputable def iRng1 (me : EM) : En → Option (List D) := fun env => (me env).bind fun t => t.int?.bind fun j => if smallI j then some (rangeD 0 j) else none
noncomputable def iRng2 (me me2 : EM) : En → Option (List D) := fun env => (me env).bind fun t => t.int?.bind fun i => (me2 env).bind fun u => u.int?.bind fun j => if smallI i ∧ smallI j then some (rangeD i j) else none
theorem pim_range1 {fz : Bool} (hg : Gl X "range") (hm : X.mg "range" = none) (he : PM X e me) (hs : starEach [e] X.env = [(false, eval e X.env)] := by rfl) : PIM X tg (.Call (.Name "range" p) [e] [] pos) fz (M.iRng1 me) := by
  refine PI_imp (pi_range1 hg hm (pam_cons he pam_nil hs) hs) fun σ H R h => ?_
  obtain ⟨G, env, F, rel, ds, e1, q⟩ := h
  simp only [M.iRng1, Option.bind_eq_some_iff] at e1
  obtain ⟨t, e2, j, e3, e4⟩ := e1
  split at e4
  · rename_i hz
    cases e4
    refine ⟨G, env, F, rel, [t], by simp [aCons, aNil, e2], fun vs H' G' x r => ?_⟩
    obtain ⟨v, F', rfl, h⟩ := r.one
    rw [h.int e3]
    unfold smallI at hz
    refine ⟨j, rfl, by omega, by omega, q _ H' G' x ?_⟩
    have := wk_range (K := X.K) (B := if fz then G' else H') (G0 := G') (lo := 0) (n := j.toNat)
    unfold rangeD
    rw [Int.sub_zero]
    exact this
  · cases e4
/-- zip of two -/
def zipD : List D → List D → List D
  | a :: r, b :: t => .tuple [a, b] :: zipD r t
  | _, _ => []
theorem zipD_get : ∀ {xs ys : List D} {i : Nat} {d : D}, (zipD xs ys)[i]? = some d → ∃ a b, xs[i]? = some a ∧ ys[i]? = some b ∧ d = .tuple [a, b]
  | [], _, _, _, e => by simp [zipD] at e
  | _ :: _, [], _, _, e => by simp [zipD] at e
  | a :: r, b :: t, 0, d, e => by simp [zipD] at e; exact ⟨a, b, rfl, rfl, e.symm⟩
  | a :: r, b :: t, i + 1, d, e => by
    obtain ⟨x, y, h1, h2, h3⟩ := zipD_get (xs := r) (ys := t) (i := i) (d := d) (by simpa [zipD] using e)
    exact ⟨x, y, by simpa using h1, by simpa using h2, h3⟩
theorem zipD_length : ∀ (xs ys : List D), (zipD xs ys).length = min xs.length ys.length
  | [], _ => by simp [zipD]
  | _ :: _, [] => by simp [zipD]
  | a :: r, b :: t => by simp [zipD, zipD_length r t]
def iZp (me me2 : EM) : En → Option (List D) := fun env => (me env).bind fun t => (me2 env).bind fun u => match t.fzl?, u.fzl? with
  | some xs, some ys => some (zipD xs ys)
  | _, _ => match t.ptup?, u.ptup? with
    | some xs, some ys => some (zipD xs ys)
    | _, _ => none
theorem wk_zip {K : PySem.W.Frag} {B G0 : Hp} {a b : Addr} {vs ws : List V} {xs ys : List D} (h1 : SqL K B a vs) (h2 : SqL K B b ws) (r1 : Rps K G0 vs xs) (r2 : Rps K G0 ws ys) : Wk2 K B G0 (Itz K a b) (zipD xs ys) where
  go := fun i H s hi => by
    rw [zipD_length] at hi
    have l1 := r1.length
    have l2 := r2.length
    exact ⟨vs, ws, vs[i], ws[i], s.seq h1, s.seq h2, by simp, by simp⟩
  stop := fun i H s hi => by
    rw [zipD_length] at hi
    have l1 := r1.length
    have l2 := r2.length
    exact ⟨vs, ws, s.seq h1, s.seq h2, by omega⟩
  yld := fun i H x H' G d s s0 sg y e => by
    obtain ⟨T, u, w, rfl, nT, rfl, y1, y2⟩ := y
    obtain ⟨d1, d2, e1, e2, rfl⟩ := zipD_get e
    obtain ⟨v1, g1, p1⟩ := r1.get e1
    obtain ⟨v2, g2, p2⟩ := r2.get e2
    rw [y1 vs (s.seq h1)] at g1
    rw [y2 ws (s.seq h2)] at g2
    cases g1
    cases g2
    have x2 := Ext.new (o := .tup [u, w]) sg nT
    exact ⟨_, x2, .tup (.inl (.inl upd_same)) (.cons ((p1.mono s0).mono x2.gg) (.cons ((p2.mono s0).mono x2.gg) .nil))⟩
theorem wk_zipT {K : PySem.W.Frag} {B G0 : Hp} {a b : Addr} {vs ws : List V} {xs ys : List D} (h1 : SqT K B a vs) (h2 : SqT K B b ws) (r1 : Rps K G0 vs xs) (r2 : Rps K G0 ws ys) : Wk2 K B G0 (RZ.ItzT K a b) (zipD xs ys) where
  go := fun i H s hi => by
    rw [zipD_length] at hi
    have l1 := r1.length
    have l2 := r2.length
    exact ⟨vs, ws, vs[i], ws[i], Same.seqT s h1, Same.seqT s h2, by simp, by simp⟩
  stop := fun i H s hi => by
    rw [zipD_length] at hi
    have l1 := r1.length
    have l2 := r2.length
    exact ⟨vs, ws, Same.seqT s h1, Same.seqT s h2, by omega⟩
  yld := fun i H x H' G d s s0 sg y e => by
    obtain ⟨T, u, w, rfl, nT, rfl, y1, y2⟩ := y
    obtain ⟨d1, d2, e1, e2, rfl⟩ := zipD_get e
    obtain ⟨v1, g1, p1⟩ := r1.get e1
    obtain ⟨v2, g2, p2⟩ := r2.get e2
    rw [y1 vs (Same.seqT s h1)] at g1
    rw [y2 ws (Same.seqT s h2)] at g2
    cases g1
    cases g2
    have x2 := Ext.new (o := .tup [u, w]) sg nT
    exact ⟨_, x2, .tup (.inl (.inl upd_same)) (.cons ((p1.mono s0).mono x2.gg) (.cons ((p2.mono s0).mono x2.gg) .nil))⟩
theorem pim_zip {elts : List Expr} {kk : Nat} {tpos : Pos} (hg : Gl X "zip") (hm : X.mg "zip" = none) (he : PM X e me) (he2 : PM X e2 me2) (hs : starEach [e, e2] X.env = (false, eval e X.env) :: starEach [e2] X.env := by rfl)
    (hs2 : starEach [e2] X.env = (false, eval e2 X.env) :: starEach [] X.env := by rfl) (hpl : (backTo pos (starEach [e2] X.env)).any (·.1) = false := by rfl) :
    PIM X (.Tuple elts kk tpos) (.Call (.Name "zip" p) [e, e2] [] pos) true (iZp me me2) := by
  refine PI_imp (RZ.pi_zipA hg hm (pam_cons he (pam_cons he2 pam_nil hs2) hs) hs hpl) fun σ H R h => ?_
  obtain ⟨G, env, F, rel, ds, e1, q⟩ := h
  simp only [iZp, Option.bind_eq_some_iff] at e1
  obtain ⟨t, e2, u, e3, e4⟩ := e1
  refine ⟨G, env, F, rel, [t, u], by simp [aCons, aNil, e2, e3], fun vs H' G' x r => ?_⟩
  obtain ⟨v, w, F', F2, rfl, h, h'⟩ := r.two
  split at e4
  · rename_i xs ys e5 e6
    cases e4
    obtain ⟨a, vs, rfl, h1, p1⟩ := h.fzl e5
    obtain ⟨b, ws, rfl, h2, p2⟩ := h'.fzl e6
    exact ⟨a, b, vs, ws, rfl, .inl ⟨x.gh.seq h1, x.gh.seq h2, q _ H' G' x (wk_zip h1 h2 p1 p2)⟩⟩
  · split at e4
    · rename_i xs ys e5 e6
      cases e4
      obtain ⟨a, vs, rfl, h1, p1⟩ := h.ptup e5
      obtain ⟨b, ws, rfl, h2, p2⟩ := h'.ptup e6
      exact ⟨a, b, vs, ws, rfl, .inr ⟨Same.seqT x.gh h1, Same.seqT x.gh h2, q _ H' G' x (wk_zipT h1 h2 p1 p2)⟩⟩
    · cases e4
/-- enumerate -/
def enumD (k : Nat) : List D → List D
  | [] => []
  | d :: r => .tuple [.int (k : Nat), d] :: enumD (k + 1) r
def iEn (me : EM) : En → Option (List D) := fun env => (me env).bind fun t => t.fzl?.map fun xs => enumD 0 xs
end

def lcRun (g : D → En → Option En) (tt : En → Option Bool) (me : EM) (env : En) : List D → Option (List D)
  | [] => some []
  | d :: r => (g d env).bind fun e => (tt e).bind fun b => if b then (me e).bind fun t => t.pure?.bind fun y => (lcRun g tt me env r).map fun ys => y :: ys else lcRun g tt me env r
def mLc (mi : En → Option (List D)) (vs : List Nat) (g : D → En → Option En) (tt : En → Option Bool) (me : EM) : EM := fun env => (mi env).bind fun ds => (lcRun g tt me (wipeE env vs) ds).bind fun out => if out.length ≤ LIM then some (.p (.list out)) else none
def bYes : En → Option Bool := fun _ => some true
abbrev PTsM (X : Cx) (ifs : List Expr) (m : En → Option Bool) : Prop := PTs X ifs (tTM X.K m)
theorem PTs_imp {X : Cx} {e : List Expr} {t t' : TT} (h : PTs X e t) (i : ∀ σ H Q, t' σ H Q → t σ H Q) : PTs X e t' := ⟨fun pins s σ H Q I q => h.run pins s σ H Q I (i σ H Q q)⟩
theorem ptsm_nil {X : Cx} : PTsM X [] bYes := PTs_imp pts_nil fun σ H Q h => by
  obtain ⟨G, env, F, rel, b, e, q⟩ := h
  cases e
  exact q H G (Ext.refl rel.sm)
theorem ptsm_one {X : Cx} {c : Expr} {m : En → Option Bool} (h : PTM X c m) : PTsM X [c] m := pts_one h
/-- the reading of a comprehension whose element is pure -/
theorem lcM {K : PySem.W.Frag} {fz : Bool} {mi : En → Option (List D)} {js vs : List Nat} {g : D → En → Option En} {tt : En → Option Bool} {me : EM} (hj : ∀ j ∈ js, j ∈ vs) {σ : L2.St} {H : Hp} {Q : VK}
    (h : ∃ G env F, Rel K G H env σ F ∧ ∃ ds out, mi env = some ds ∧ lcRun g tt me (wipeE env vs) ds = some out ∧ out.length ≤ LIM ∧
      ∀ p vs' H' G', Ext G H G' H' → H p = none → G' p = none → H' p = some (.lst vs') → Rps K G' vs' out → Q (.ref p) H') :
    tLc (iM K fz mi) (gM K js g) (tTM K tt) (tM K me) vs σ H Q := by
  obtain ⟨G, env, F, rel, ds, out, e1, e2, hz, q⟩ := h
  refine ⟨G, env, F, rel, ds, e1, fun J H1 G1 x1 wk => fun D nD => ?_⟩
  refine ⟨fun i m H2 => m = ds.length - i ∧ i ≤ ds.length ∧ ∃ G2 acc o1 o2, Ext G1 H1 G2 H2 ∧ G2 D = none ∧ H2 D = some (.lst acc) ∧ Rps K G2 acc o1 ∧ lcRun g tt me (wipeE env vs) (ds.drop i) = some o2 ∧ out = o1 ++ o2, ?_, ?_⟩
  · refine ⟨ds.length, rfl, Nat.zero_le _, G1, [], [], out, Ext.fresh x1.gh nD, x1.gh.free nD, upd_same, .nil, by simpa using e2, rfl⟩
  · rintro i m H2 ⟨rfl, hi, G2, acc, o1, o2, x2, gD, hD, ra, e3, eo⟩
    have sB : Same (if fz then G1 else H1) H2 := by
      cases fz with
      | true => exact x2.gg.trans x2.gh
      | false => exact x2.hh
    by_cases hlt : i < ds.length
    · have ed : ds.drop i = ds[i] :: ds.drop (i + 1) := List.drop_eq_getElem_cons hlt
      rw [ed] at e3
      simp only [lcRun, Option.bind_eq_some_iff] at e3
      obtain ⟨env1, e4, b, e5, e6⟩ := e3
      refine .inr ⟨wk.go i H2 sB hlt, fun H' => (i + 1 ≤ ds.length ∧ ∃ G2 acc o1 o2, Ext G1 H1 G2 H' ∧ G2 D = none ∧ H' D = some (.lst acc) ∧ Rps K G2 acc o1 ∧ lcRun g tt me (wipeE env vs) (ds.drop (i + 1)) = some o2 ∧ out = o1 ++ o2), fun H' w => ⟨ds.length - (i + 1), by omega, rfl, w.1, w.2⟩, fun x H3 y => ?_⟩
      obtain ⟨G3, x3, rd⟩ := wk.yld i H2 x H3 G2 ds[i] sB x2.gg x2.gh y (List.getElem?_eq_getElem hlt)
      have gD3 : ∀ {Ga Ha Gb Hb : Hp}, Ext Ga Ha Gb Hb → Ga D = none → Ha D ≠ none → Gb D = none := fun {Ga Ha Gb Hb} x g h => by
        cases z : Gb D with
        | none => rfl
        | some o =>
          rcases x.fr D (by rw [z]; exact Option.some_ne_none o) with w | w
          · exact absurd g w
          · exact absurd w h
      have rel3 := (rel.ext x1).ext (x2.trans x3)
      obtain ⟨Fw, relw⟩ := rel3.wipe vs
      refine ⟨G3, wipeE env vs, Fw, ds[i], relw, rd, env1, e4, fun σ2 F2 rel4 _ ou => ⟨ou.wipe hj |>.trans ?_, ?_⟩⟩
      · have : Only [] (L2.wipe σ vs) (L2.wipe σ vs) := Only.refl _ _
        apply List.ext_getElem?
        intro k
        rw [wipe_get, wipe_get]
        by_cases hk : k ∈ vs
        · rw [if_pos hk, if_pos hk, wipe_length]
        · rw [if_neg hk, if_neg hk]
      · refine ⟨G3, env1, F2, rel4, b, e5, fun H4 G4 x4 => ?_⟩
        have hD3 : H3 D = some (.lst acc) := x3.hh _ _ hD
        have g3 : G3 D = none := gD3 x3 gD (by rw [hD]; exact Option.some_ne_none _)
        have g4 : G4 D = none := gD3 x4 g3 (by rw [hD3]; exact Option.some_ne_none _)
        have hD4 : H4 D = some (.lst acc) := x4.hh _ _ hD3
        cases b with
        | false =>
          rw [if_neg Bool.false_ne_true] at e6
          refine iteF ?_
          exact ⟨hlt, G4, acc, o1, o2, (x2.trans x3).trans x4, g4, hD4, (ra.mono x3.gg).mono x4.gg, e6, eo⟩
        | true =>
          rw [if_pos rfl] at e6
          simp only [Option.bind_eq_some_iff, Option.map_eq_some_iff] at e6
          obtain ⟨t, e7, yd, e8, ys, e9, rfl⟩ := e6
          refine iteT ?_
          refine ⟨G4, env1, F2, rel4.ext x4, t, e7, fun v H5 G5 F5 x5 r5 => ?_⟩
          have hD5 : H5 D = some (.lst acc) := x5.hh _ _ hD4
          have g5 : G5 D = none := gD3 x5 g4 (by rw [hD4]; exact Option.some_ne_none _)
          have x25 := ((x2.trans x3).trans x4).trans x5
          have ra5 : Rps K G5 acc o1 := ((ra.mono x3.gg).mono x4.gg).mono x5.gg
          refine ⟨acc, hD5, ?_, hlt, G5, acc ++ [v], o1 ++ [yd], ys, ⟨x25.gg, fun a o z => ?_, fun a o z => ?_, x25.fr⟩, g5, upd_same, ra5.append (.one (r5.of_pure? e8)), e9, by rw [eo, List.append_assoc]; rfl⟩
          · have l1 := ra5.length
            rw [eo] at hz
            simp only [List.length_append, List.length_cons] at hz
            have := LIM_line
            omega
          · have : a ≠ D := ne_of_none z nD
            rw [upd_ne this]
            exact x25.hh a o z
          · have : a ≠ D := ne_of_none z g5
            rw [upd_ne this]
            exact x25.gh a o z
    · have hi' : i = ds.length := by omega
      subst hi'
      rw [List.drop_length] at e3
      cases e3
      rw [List.append_nil] at eo
      subst eo
      exact .inl ⟨wk.stop _ H2 sB (Nat.le_refl _), q D acc H2 G2 (x1.trans x2) (x1.hh.free nD) gD hD ra⟩
section
variable {X : Cx}
theorem tLcM {K : PySem.W.Frag} {fz : Bool} {mi : En → Option (List D)} {js vs : List Nat} {g : D → En → Option En} {tt : En → Option Bool} {me : EM} (hj : ∀ j ∈ js, j ∈ vs) {σ : L2.St} {H : Hp} {Q : VK} (h : tM K (mLc mi vs g tt me) σ H Q) :
    tLc (iM K fz mi) (gM K js g) (tTM K tt) (tM K me) vs σ H Q := by
  obtain ⟨G, env, F, rel, t, e, q⟩ := h
  simp only [mLc, Option.bind_eq_some_iff] at e
  obtain ⟨ds, e1, out, e2, e3⟩ := e
  split at e3
  · rename_i hz
    cases e3
    refine lcM hj ⟨G, env, F, rel, ds, out, e1, e2, hz, fun p vs' H' G' x hp gp h1 h2 => ?_⟩
    refine q _ H' (upd G' p (.lst vs')) [] ⟨x.gg.trans (same_upd gp), x.hh, fun a o z => ?_, fun a z => ?_⟩ (.p (.lst upd_same (h2.mono (same_upd gp))))
    · by_cases hap : a = p
      · subst hap; rw [upd_same] at z; cases z; exact h1
      · rw [upd_ne hap] at z; exact x.gh a o z
    · by_cases hap : a = p
      · subst hap; exact .inr hp
      · rw [upd_ne hap] at z; exact x.fr a z
  · cases e3
theorem pm_lc {elt tg iter : Expr} {ifs : List Expr} {scope : Scope} {own : List (Str × Nat)} {pos : Pos} {fz : Bool} {mi : En → Option (List D)} {js : List Nat} {g : D → En → Option En} {tt : En → Option Bool} {me : EM} (hc : X.calm = true) (hN : X.N.Nodup) (hi : PIM X tg iter fz mi) (ok : BlkOk X.N X.env.scope scope own)
    (hg : ∀ (s : Shared) (H : Hp) (C : Addr) (cl : List (Str × Addr)) (fp : List Addr), GM (X.blk s H scope (compEnvC scope cl C X.env) fp) tg js g) (ht : ∀ (s : Shared) (H : Hp) (C : Addr) (cl : List (Str × Addr)) (fp : List Addr), PTsM (X.blk s H scope (compEnvC scope cl C X.env) fp) ifs tt)
    (he : ∀ (s : Shared) (H : Hp) (C : Addr) (cl : List (Str × Addr)) (fp : List Addr), PM (X.blk s H scope (compEnvC scope cl C X.env) fp) elt me) (hj : ∀ j ∈ js, j ∈ own.map (·.2) := by decide) (hs : ∀ x, foldedSetIterable iter X.env x = pure x := by intro _; rfl) :
    PM X (.ListComp elt [⟨tg, iter, ifs, 0⟩] scope pos) (mLc mi (own.map (·.2)) g tt me) :=
  PE_imp (pe_lc hc hN hi ok hg ht he hs) fun _ _ _ h => tLcM hj h
end
end M
namespace M
open PySem PySem.Spec PyProof.Rows L2

inductive Out where
  | nx (e : En) | rt (t : T) | bk (e : En) | ct (e : En)
abbrev SM := En → Option Out
/-- the slots stand, R is kept, what is frozen was so ahead (G0) or is new -/
def SR (K : PySem.W.Frag) (G0 R : Hp) (env : En) (σ : L2.St) (H : Hp) : Prop := ∃ G F, Rel K G H env σ F ∧ (∀ a ∈ F, R a = none) ∧ Ext G0 R G H
def RR (K : PySem.W.Frag) (G0 R : Hp) (t : T) (v : V) (H : Hp) : Prop := ∃ G F, Ext G0 R G H ∧ TR K G H t v F ∧ F.Nodup ∧ ∀ a ∈ F, G a = none ∧ R a = none
def Goes (K : PySem.W.Frag) (G0 R : Hp) (D : Ends) : Out → Prop
  | .nx e => ∀ σ H, SR K G0 R e σ H → D.nx σ H
  | .rt t => ∀ v H, RR K G0 R t v H → D.rt v H
  | .bk e => ∀ σ H, SR K G0 R e σ H → D.bk σ H
  | .ct e => ∀ σ H, SR K G0 R e σ H → D.ct σ H
def tS (K : PySem.W.Frag) (m : SM) : TS := fun D σ H => ∃ G0 R env, SR K G0 R env σ H ∧ ∃ o, m env = some o ∧ Goes K G0 R D o
abbrev PSM (X : Cx) (st : Stmt) (m : SM) : Prop := PS X st (tS X.K m)
abbrev PSsM (X : Cx) (st : List Stmt) (m : SM) : Prop := PSs X st (tS X.K m)
theorem PS_imp {X : Cx} {e : Stmt} {t t' : TS} (h : PS X e t) (i : ∀ D σ H, t' D σ H → t D σ H) : PS X e t' := ⟨fun pins s σ H D I q => h.run pins s σ H D I (i D σ H q)⟩
theorem PSs_imp {X : Cx} {e : List Stmt} {t t' : TS} (h : PSs X e t) (i : ∀ D σ H, t' D σ H → t D σ H) : PSs X e t' := ⟨fun pins s σ H D I q => h.run pins s σ H D I (i D σ H q)⟩

section
variable {K : PySem.W.Frag} {G0 R G1 G H H' : Hp}
/-- R kept, through a first state -/
theorem Ext.step (a : Ext G0 R G H) {G' : Hp} (b : Ext G H G' H') : Ext G0 R G' H' := a.trans b
theorem Ext.over {H1 : Hp} (a : Ext G0 R G1 H1) (b : Ext G1 R G H) : Ext G0 R G H := ⟨a.gg.trans b.gg, b.hh, b.gh, fun x h => by
  rcases b.fr x h with z | z
  · exact a.fr x z
  · exact .inr z⟩
theorem SR.over {H1 : Hp} {env : En} {σ : L2.St} (a : Ext G0 R G1 H1) (s : SR K G1 R env σ H) : SR K G0 R env σ H := by
  obtain ⟨G, F, h1, h2, h3⟩ := s
  exact ⟨G, F, h1, h2, a.over h3⟩
theorem RR.over {H1 : Hp} {t : T} {v : V} (a : Ext G0 R G1 H1) (s : RR K G1 R t v H) : RR K G0 R t v H := by
  obtain ⟨G, F, h1, h2, h3, h4⟩ := s
  exact ⟨G, F, a.over h1, h2, h3, h4⟩
theorem Goes.over {H1 : Hp} {D : Ends} {o : Out} (a : Ext G0 R G1 H1) (g : Goes K G0 R D o) : Goes K G1 R D o := by
  cases o with
  | nx e => exact fun σ H s => g σ H (s.over a)
  | rt t => exact fun v H s => g v H (s.over a)
  | bk e => exact fun σ H s => g σ H (s.over a)
  | ct e => exact fun σ H s => g σ H (s.over a)
end

def sNil : SM := fun env => some (.nx env)
def sCons (a b : SM) : SM := fun env => (a env).bind fun o => match o with
  | .nx e => b e
  | o => some o
section
variable {X : Cx} {st : Stmt} {rest : List Stmt} {ma mb : SM} {pos : Pos}
theorem psm_nil : PSsM X [] sNil := PSs_imp pss_nil fun D σ H h => by
  obtain ⟨G0, R, env, s, o, e, g⟩ := h
  cases e
  exact g σ H s
theorem psm_cons (ha : PSM X st ma) (hb : PSsM X rest mb) : PSsM X (st :: rest) (sCons ma mb) := by
  refine PSs_imp (pss_cons ha hb) fun D σ H h => ?_
  obtain ⟨G0, R, env, s, o, e, g⟩ := h
  simp only [sCons, Option.bind_eq_some_iff] at e
  obtain ⟨o1, e1, e2⟩ := e
  refine ⟨G0, R, env, s, o1, e1, ?_⟩
  cases o1 with
  | nx e => exact fun σ' H' s' => ⟨G0, R, e, s', o, e2, g⟩
  | rt t => cases e2; exact g
  | bk t => cases e2; exact g
  | ct t => cases e2; exact g
theorem psm_one (ha : PSM X st ma) : PSsM X [st] ma := by
  refine PSs_imp (pss_one ha) fun D σ H h => ?_
  exact h
def sPass : SM := fun env => some (.nx env)
def sBreak : SM := fun env => some (.bk env)
def sContinue : SM := fun env => some (.ct env)
def sNever : SM := fun _ => none
theorem psm_never : PSM X st sNever := PS_imp ps_never fun D σ H h => by
  obtain ⟨G0, R, env, s, o, e, g⟩ := h
  cases e
variable {e : Expr} {me : EM}
def sExpr (m : EM) : SM := fun env => (m env).map fun _ => .nx env
theorem psm_expr (he : PM X e me) (hs : swapsWith e none pos.line X.env = pure false := by rfl) : PSM X (.Expr e pos) (sExpr me) := by
  refine PS_imp (ps_expr he hs) fun D σ H h => ?_
  obtain ⟨G0, R, env, ⟨G, F, rel, hR, x0⟩, o, e, g⟩ := h
  simp only [sExpr, Option.map_eq_some_iff] at e
  obtain ⟨t, e1, rfl⟩ := e
  exact ⟨G, env, F, rel, t, e1, fun v H' G' F' x r => g σ H' ⟨G', F, rel.ext x, hR, x0.trans x⟩⟩
def sRet (m : EM) : SM := fun env => (m env).bind fun t => t.pure?.map fun d => .rt (.p d)
theorem psm_ret (he : PM X e me) : PSM X (.Return (some e) pos) (sRet me) := by
  refine PS_imp (ps_ret he) fun D σ H h => ?_
  obtain ⟨G0, R, env, ⟨G, F, rel, hR, x0⟩, o, e, g⟩ := h
  simp only [sRet, Option.bind_eq_some_iff, Option.map_eq_some_iff] at e
  obtain ⟨t, e1, d, e2, rfl⟩ := e
  exact ⟨G, env, F, rel, t, e1, fun v H' G' F' x r => g v H' ⟨G', [], x0.trans x, .p (r.of_pure? e2), .nil, fun _ z => nomatch z⟩⟩
def sSet (i : Nat) (m : EM) : SM := fun env => (m env).bind fun t => t.pure?.map fun d => .nx (env.set i (some (.p d)))
theorem SR.putp {K : PySem.W.Frag} {G0 R G H : Hp} {env : En} {σ : L2.St} {F : List Addr} (rel : Rel K G H env σ F) (hR : ∀ a ∈ F, R a = none) (x0 : Ext G0 R G H) (i : Nat) {v : V} {d : D} (h : Rp K G v d) : SR K G0 R (env.set i (some (.p d))) (σ.set i (some v)) H := by
  obtain ⟨F', r', s'⟩ := rel.putp i h
  exact ⟨G, F', r', fun a ha => hR a (s' a ha), x0⟩
theorem tSetM {K : PySem.W.Frag} {i : Nat} {m : EM} {D : Ends} {σ : L2.St} {H : Hp} (h : tS K (sSet i m) D σ H) : tM K m σ H fun x H1 => gName i x σ H1 D.nx := by
  obtain ⟨G0, R, env, ⟨G, F, rel, hR, x0⟩, o, e, g⟩ := h
  simp only [sSet, Option.bind_eq_some_iff, Option.map_eq_some_iff] at e
  obtain ⟨t, e1, d, e2, rfl⟩ := e
  exact ⟨G, env, F, rel, t, e1, fun v H' G' F' x r => g _ H' (SR.putp (rel.ext x) hR (x0.trans x) i (r.of_pure? e2))⟩
theorem psm_set {i : Nat} {x : Str} {pos' : Pos} (hN : X.N.Nodup) (he : PM X e me) (hi : X.N[i]? = some x := by rfl) (hx : Loc X.env.scope x := by first | exact Or.inl rfl | exact Or.inr rfl) (hs : swapsWith e (some (.Name x pos')) pos.line X.env = pure false := by rfl) (hf : X.fn x = true ∨ X.env.scope.names.lookup x = some .local := by first | exact .inl rfl | exact .inr rfl | assumption) :
    PSM X (.Assign [.Name x pos'] e pos) (sSet i me) := PS_imp (ps_set hN hi hx he hs hf) fun D σ H h => tSetM h
/-- y = [..] -/
theorem psm_setLc {i : Nat} {y : Str} {py spos : Pos} {elt tg iter : Expr} {ifs : List Expr} {scope : Scope} {own : List (Str × Nat)} {fz : Bool} {mi : En → Option (List D)} {js : List Nat} {g : D → En → Option En} {tt : En → Option Bool} {me : EM} (hc : X.calm = true) (hN : X.N.Nodup)
    (hi : PIM X tg iter fz mi) (ok : BlkOk X.N X.env.scope scope own)
    (hg : ∀ (s : Shared) (H : Hp) (C : Addr) (cl : List (Str × Addr)) (fp : List Addr), GM (X.blk s H scope (compEnvC scope cl C X.env) fp) tg js g) (ht : ∀ (s : Shared) (H : Hp) (C : Addr) (cl : List (Str × Addr)) (fp : List Addr), PTsM (X.blk s H scope (compEnvC scope cl C X.env) fp) ifs tt)
    (he : ∀ (s : Shared) (H : Hp) (C : Addr) (cl : List (Str × Addr)) (fp : List Addr), PM (X.blk s H scope (compEnvC scope cl C X.env) fp) elt me)
    (hsw : swapsWith (.ListComp elt [⟨tg, iter, ifs, 0⟩] scope pos) (some (.Name y py)) spos.line X.env = pure true) (hy : X.N[i]? = some y := by rfl) (hyl : X.env.scope.names.lookup y = some .local := by rfl)
    (hj : ∀ j ∈ js, j ∈ own.map (·.2) := by decide) (hs : ∀ x, foldedSetIterable iter X.env x = pure x := by intro _; rfl) :
    PSM X (.Assign [.Name y py] (.ListComp elt [⟨tg, iter, ifs, 0⟩] scope pos) spos) (sSet i (mLc mi (own.map (·.2)) g tt me)) :=
  PS_imp (ps_setLc hc hN hy hyl hsw hi ok hg ht he hs) fun D σ H h => tLcM hj (tSetM h)
/-- a, b = e -/
def sAsg (g : D → En → Option En) (m : EM) : SM := fun env => (m env).bind fun t => t.pure?.bind fun d => (g d env).map .nx
theorem psm_asg {tg : Expr} {js : List Nat} {g : D → En → Option En} (he : PM X e me) (hg : GM X tg js g) (hs : swapsWithSole [tg] e pos.line X.env = pure false := by rfl) (hw : swappedStores [tg] e X.env = pure none := by rfl)
    (h1 : (assignEach [tg] X.env).map (·.2) = [assign tg X.env] := by rfl) : PSM X (.Assign [tg] e pos) (sAsg g me) := by
  refine PS_imp (ps_asg he hg hs hw h1) fun D σ H h => ?_
  obtain ⟨G0, R, env, ⟨G, F, rel, hR, x0⟩, o, e, gg⟩ := h
  simp only [sAsg, Option.bind_eq_some_iff, Option.map_eq_some_iff] at e
  obtain ⟨t, e1, d, e2, env', e3, rfl⟩ := e
  refine ⟨G, env, F, rel, t, e1, fun v H' G' F' x r => ?_⟩
  exact ⟨G', env, F, d, rel.ext x, r.of_pure? e2, env', e3, fun σ' F2 rel2 s2 _ => gg σ' H' ⟨G', F2, rel2, fun a ha => hR a (s2 a ha), x0.trans x⟩⟩
/-- a, b = x, y (plain locals) -/
def sPar (i j : Nat) (ms : En → Option (List T)) : SM := fun env => (ms env).bind fun ts => (pures ts).bind fun ds => match ds with
  | [d, d'] => some (.nx ((env.set i (some (.p d))).set j (some (.p d'))))
  | _ => none
theorem psm_par {i j : Nat} {x y : Str} {a b : Expr} {ms : En → Option (List T)} {px py pt : Pos} {kt k2 pt2} (hc : X.calm = true) (hN : X.N.Nodup) (hij : i ≠ j) (ha : PAM X [a, b] ms)
    (hw : swappedStores [.Tuple [.Name x px, .Name y py] kt pt] (.Tuple [a, b] k2 pt2) X.env = pure (some [x, y])) (hi : X.N[i]? = some x := by rfl) (hj : X.N[j]? = some y := by rfl)
    (hx : X.env.scope.names.lookup x = some .local := by rfl) (hy : X.env.scope.names.lookup y = some .local := by rfl)
    (hs : swapsWithSole [.Tuple [.Name x px, .Name y py] kt pt] (.Tuple [a, b] k2 pt2) pos.line X.env = pure false := by rfl) :
    PSM X (.Assign [.Tuple [.Name x px, .Name y py] kt pt] (.Tuple [a, b] k2 pt2) pos) (sPar i j ms) := by
  refine PS_imp (ps_par hc hN hi hj hij hx hy ha hw hs) fun D σ H h => ?_
  obtain ⟨G0, R, env, ⟨G, F, rel, hR, x0⟩, o, e, g⟩ := h
  simp only [sPar, Option.bind_eq_some_iff] at e
  obtain ⟨ts, e1, ds, e2, e3⟩ := e
  split at e3
  · rename_i d d'
    cases e3
    refine ⟨G, env, F, rel, ts, e1, fun vs H' G' x r => ?_⟩
    have rp := r.pures e2
    cases rp with
    | cons p1 rp =>
      cases rp with
      | cons p2 rp =>
        cases rp
        refine ⟨_, _, rfl, g _ H' ?_⟩
        obtain ⟨F1, r1, s1⟩ := (rel.ext x).putp i p1
        exact SR.putp r1 (fun a ha => hR a (s1 a ha)) (x0.trans x) j p2
  · cases e3
def sIf (c : En → Option Bool) (a b : SM) : SM := fun env => (c env).bind fun k => if k then a env else b env
theorem psm_if {c : Expr} {a b : List Stmt} {mc : En → Option Bool} (hc : PTM X c mc) (ha : PSsM X a ma) (hb : PSsM X b mb) : PSM X (.If c a b pos) (sIf mc ma mb) := by
  refine PS_imp (ps_if hc ha hb) fun D σ H h => ?_
  obtain ⟨G0, R, env, ⟨G, F, rel, hR, x0⟩, o, e, g⟩ := h
  simp only [sIf, Option.bind_eq_some_iff] at e
  obtain ⟨k, e1, e2⟩ := e
  refine ⟨G, env, F, rel, k, e1, fun H' G' x => ?_⟩
  cases k with
  | true =>
    rw [if_pos rfl] at e2
    exact iteT ⟨G0, R, env, ⟨G', F, rel.ext x, hR, x0.trans x⟩, o, e2, g⟩
  | false =>
    rw [if_neg Bool.false_ne_true] at e2
    exact iteF ⟨G0, R, env, ⟨G', F, rel.ext x, hR, x0.trans x⟩, o, e2, g⟩
def forRun (g : D → En → Option En) (mb : SM) : List D → En → Option Out
  | [], env => some (.nx env)
  | d :: r, env => (g d env).bind fun e1 => (mb e1).bind fun o => match o with
    | .nx e => forRun g mb r e
    | .ct e => forRun g mb r e
    | .bk e => some (.nx e)
    | .rt t => some (.rt t)
def sFor (mi : En → Option (List D)) (g : D → En → Option En) (mb : SM) : SM := fun env => (mi env).bind fun ds => forRun g mb ds env
theorem psm_for {tg iter : Expr} {body : List Stmt} {mi : En → Option (List D)} {js : List Nat} {g : D → En → Option En} (hp : PassesOwn (model X.prog X.w) X.A X.env X.xe) (hc : X.calm = true) (hi : PIM X tg iter true mi) (hg : GM X tg js g) (hb : PSsM X body mb)
    (hs : ∀ x, foldedSetIterable iter X.env x = pure x := by intro _; rfl) : PSM X (.For tg iter body [] pos) (sFor mi g mb) := by
  refine PS_imp (ps_for hp hc hi hg hb hs) fun D σ H h => ?_
  obtain ⟨G0, R, env, ⟨G, F, rel, hR, x0⟩, o, e, gg⟩ := h
  simp only [sFor, Option.bind_eq_some_iff] at e
  obtain ⟨ds, e1, e2⟩ := e
  refine ⟨G, env, F, rel, ds, e1, fun J H1 G1 x1 wk => ?_⟩
  have x01 := x0.trans x1
  refine ⟨fun i m σ H => m = ds.length - i ∧ i ≤ ds.length ∧ ∃ envi, SR X.K G1 R envi σ H ∧ forRun g mb (ds.drop i) envi = some o, ⟨ds.length, rfl, Nat.zero_le _, env, ⟨G1, F, rel.ext x1, hR, ⟨Same.refl _, x01.hh, x1.gh, fun a h => .inl h⟩⟩, e2⟩, ?_⟩
  rintro i m σ H ⟨rfl, hi', envi, ⟨G2, F2, rel2, hR2, x2⟩, e3⟩
  have sB : Same G1 H := x2.gg.trans x2.gh
  by_cases hlt : i < ds.length
  · have ed : ds.drop i = ds[i] :: ds.drop (i + 1) := List.drop_eq_getElem_cons hlt
    rw [ed] at e3
    simp only [forRun, Option.bind_eq_some_iff] at e3
    obtain ⟨env1, e4, o1, e5, e6⟩ := e3
    refine .inr ⟨wk.go i H sB hlt, fun σ' H' => (∃ envi, SR X.K G1 R envi σ' H' ∧ forRun g mb (ds.drop (i + 1)) envi = some o), fun σ' H' w => ⟨ds.length - (i + 1), by omega, rfl, hlt, w⟩, fun x H3 y => ?_⟩
    obtain ⟨G3, x3, rd⟩ := wk.yld i H x H3 G2 ds[i] sB x2.gg x2.gh y (List.getElem?_eq_getElem hlt)
    refine ⟨G3, envi, F2, ds[i], rel2.ext x3, rd, env1, e4, fun σ4 F4 rel4 s4 _ => ?_⟩
    refine ⟨G1, R, env1, ⟨G3, F4, rel4, fun a ha => hR2 a (s4 a ha), x2.trans x3⟩, o1, e5, ?_⟩
    cases o1 with
    | nx e => exact fun σ' H' s' => ⟨e, s', e6⟩
    | ct e => exact fun σ' H' s' => ⟨e, s', e6⟩
    | bk e =>
      cases e6
      exact fun σ' H' s' => gg σ' H' (s'.over x01)
    | rt t =>
      cases e6
      exact fun v H' s' => gg v H' (s'.over x01)
  · have hi2 : i = ds.length := by omega
    subst hi2
    rw [List.drop_length] at e3
    cases e3
    exact .inl ⟨wk.stop _ H sB (Nat.le_refl _), gg σ H (SR.over x01 ⟨G2, F2, rel2, hR2, x2⟩)⟩
def whileRun (c : En → Option Bool) (mb : SM) : Nat → En → Option Out
  | 0, _ => none
  | n + 1, env => (c env).bind fun k => if k then (mb env).bind fun o => (match o with
    | .nx e => whileRun c mb n e
    | .ct e => whileRun c mb n e
    | .bk e => some (.nx e)
    | .rt t => some (.rt t)) else some (.nx env)
def sWhile (fuel : Nat) (c : En → Option Bool) (mb : SM) : SM := fun env => whileRun c mb fuel env
theorem psm_while {fuel : Nat} {c : Expr} {body : List Stmt} {mc : En → Option Bool} (hp : PassesOwn (model X.prog X.w) X.A X.env X.xe) (hc : PTM X c mc) (hb : PSsM X body mb) : PSM X (.While c body [] pos) (sWhile fuel mc mb) := by
  refine PS_imp (ps_while hp hc hb) fun D σ H h => ?_
  obtain ⟨G0, R, env, s, o, e, gg⟩ := h
  refine ⟨fun m σ H => ∃ envi, SR X.K G0 R envi σ H ∧ whileRun mc mb m envi = some o, ⟨fuel, env, s, e⟩, ?_⟩
  rintro m σ H ⟨envi, ⟨G, F, rel, hR, x0⟩, e1⟩
  cases m with
  | zero => cases e1
  | succ m =>
    simp only [whileRun, Option.bind_eq_some_iff] at e1
    obtain ⟨k, e2, e3⟩ := e1
    refine ⟨G, envi, F, rel, k, e2, fun H' G' x => ?_⟩
    cases k with
    | false =>
      rw [if_neg Bool.false_ne_true] at e3
      cases e3
      exact iteF (gg σ H' ⟨G', F, rel.ext x, hR, x0.trans x⟩)
    | true =>
      rw [if_pos rfl] at e3
      simp only [Option.bind_eq_some_iff] at e3
      obtain ⟨o1, e4, e5⟩ := e3
      refine iteT ⟨fun σ' H' => ∃ envi, SR X.K G0 R envi σ' H' ∧ whileRun mc mb m envi = some o, fun σ' H' w => ⟨m, Nat.lt_succ_self m, w⟩, ?_⟩
      refine ⟨G0, R, envi, ⟨G', F, rel.ext x, hR, x0.trans x⟩, o1, e4, ?_⟩
      cases o1 with
      | nx e => exact fun σ' H' s' => ⟨e, s', e5⟩
      | ct e => exact fun σ' H' s' => ⟨e, s', e5⟩
      | bk e => cases e5; exact fun σ' H' s' => gg σ' H' s'
      | rt t => cases e5; exact fun v H' s' => gg v H' s'
def sFrz (i : Nat) (m : SM) : SM := fun env => match env[i]? with
  | some (some t) => t.snap.bind fun d => m (env.set i (some (.p d)))
  | _ => m env
theorem psm_frz {sts : List Stmt} (i : Nat) (h : PSsM X sts ma) : PSsM X sts (sFrz i ma) := by
  refine PSs_imp h fun D σ H h => ?_
  obtain ⟨G0, R, env, ⟨G, F, rel, hR, x0⟩, o, e, gg⟩ := h
  unfold sFrz at e
  split at e
  · rename_i t et
    rw [Option.bind_eq_some_iff] at e
    obtain ⟨d, e1, e2⟩ := e
    obtain ⟨v, F1, Fa, Fb, h1, h2, h3, _, h5, _⟩ := rel.es.split et
    subst h3
    have m1 : ∀ a ∈ F1, a ∈ Fa ++ (F1 ++ Fb) := fun a ha => List.mem_append_right _ (List.mem_append_left _ ha)
    let G' : Hp := fun a => if a ∈ F1 then H a else G a
    have g1 : Same G G' := fun a u z => by
      show (if a ∈ F1 then H a else G a) = some u
      by_cases ha : a ∈ F1
      · rw [(rel.fr a (m1 a ha)).1] at z; cases z
      · rw [if_neg ha]; exact z
    have g2 : Same G' H := fun a u z => by
      have z' : (if a ∈ F1 then H a else G a) = some u := z
      by_cases ha : a ∈ F1
      · rw [if_pos ha] at z'; exact z'
      · rw [if_neg ha] at z'; exact rel.sm a u z'
    have rd : Rp X.K G' v d := h2.data g1 (fun a ha u z => by
      show (if a ∈ F1 then H a else G a) = some u
      rw [if_pos ha]; exact z) e1
    have nd := rel.nd
    rw [List.nodup_append] at nd
    obtain ⟨n1, n2, n3⟩ := nd
    rw [List.nodup_append] at n2
    obtain ⟨n4, n5, n6⟩ := n2
    have dj : ∀ a ∈ Fa ++ Fb, a ∉ F1 := fun a ha z => by
      rcases List.mem_append.mp ha with w | w
      · exact n3 a w a (List.mem_append_left _ z) rfl
      · exact n6 a z a w rfl
    have mf : ∀ a ∈ Fa ++ Fb, a ∈ Fa ++ (F1 ++ Fb) := fun a ha => by
      rcases List.mem_append.mp ha with w | w
      · exact List.mem_append_left _ w
      · exact List.mem_append_right _ (List.mem_append_right _ w)
    have es := h5 G' H (.p d) [] g1 (Keep.of (Same.refl H)) (.p rd)
    rw [List.nil_append] at es
    refine ⟨G0, R, _, ⟨G', Fa ++ Fb, ⟨es, ?_, fun a ha => ?_, g2⟩, fun a ha => hR a (mf a ha), ⟨x0.gg.trans g1, x0.hh, g2, fun a z => ?_⟩⟩, o, e2, gg⟩
    · exact List.nodup_append.mpr ⟨n1, n5, fun a ha b hb => n3 a ha b (List.mem_append_right _ hb)⟩
    · obtain ⟨z1, z2⟩ := rel.fr a (mf a ha)
      refine ⟨?_, z2⟩
      show (if a ∈ F1 then H a else G a) = none
      rw [if_neg (dj a ha)]
      exact z1
    · have z' : (if a ∈ F1 then H a else G a) ≠ none := z
      by_cases ha : a ∈ F1
      · exact .inr (hR a (m1 a ha))
      · rw [if_neg ha] at z'; exact x0.fr a z'
  · exact ⟨G0, R, env, ⟨G, F, rel, hR, x0⟩, o, e, gg⟩
end
end M
namespace M
open PySem PySem.Spec PyProof.Rows L2

inductive Stp where
  | ix (k : Nat) | fd (f : Str)
def T.at : List Stp → T → Option T
  | [], t => some t.strip
  | .ix k :: π, t => match t.strip with
    | .ml ts => (ts[k]?).bind fun u => T.at π u
    | .tp ts => (ts[k]?).bind fun u => T.at π u
    | _ => none
  | .fd f :: π, t => match t.strip with
    | .ob _ fs => (fs.lookup f).bind fun u => T.at π u
    | _ => none
def setF (f : Str) (t : T) : List (Str × T) → List (Str × T)
  | [] => []
  | (g, u) :: r => if f == g then (g, t) :: r else (g, u) :: setF f t r
def T.put : List Stp → T → T → Option T
  | [], t, u => some (t.wrap u)
  | .ix k :: π, t, u => match t.strip with
    | .ml ts => (ts[k]?).bind fun c => (T.put π c u).map fun c' => t.wrap (.ml (ts.set k c'))
    | .tp ts => (ts[k]?).bind fun c => (T.put π c u).map fun c' => t.wrap (.tp (ts.set k c'))
    | _ => none
  | .fd f :: π, t, u => match t.strip with
    | .ob C fs => (fs.lookup f).bind fun c => (T.put π c u).map fun c' => t.wrap (.ob C (setF f c' fs))
    | _ => none
inductive VAt (H : Hp) : V → List Stp → V → Prop
  | nil (v : V) : VAt H v [] v
  | lst {a : Addr} {vs : List V} {k : Nat} {w u : V} {π : List Stp} : H a = some (.lst vs) → vs[k]? = some w → VAt H w π u → VAt H (.ref a) (.ix k :: π) u
  | tup {a : Addr} {vs : List V} {k : Nat} {w u : V} {π : List Stp} : H a = some (.tup vs) → vs[k]? = some w → VAt H w π u → VAt H (.ref a) (.ix k :: π) u
  | ob {a C dx : Addr} {fs : List (Str × V)} {f : Str} {w u : V} {π : List Stp} : H a = some (.ins C dx fs) → fs.lookup f = some w → VAt H w π u → VAt H (.ref a) (.fd f :: π) u
theorem VAt.mono {H H' : Hp} (s : Same H H') : ∀ {v : V} {π : List Stp} {u : V}, VAt H v π u → VAt H' v π u
  | _, _, _, .nil v => .nil v
  | _, _, _, .lst h e r => .lst (s _ _ h) e (r.mono s)
  | _, _, _, .tup h e r => .tup (s _ _ h) e (r.mono s)
  | _, _, _, .ob h e r => .ob (s _ _ h) e (r.mono s)
theorem VAt.det {H : Hp} : ∀ {v : V} {π : List Stp} {u w : V}, VAt H v π u → VAt H v π w → u = w
  | _, _, _, _, .nil _, .nil _ => rfl
  | _, _, _, _, .lst h e r, .lst h' e' r' => by rw [h] at h'; cases h'; rw [e] at e'; cases e'; exact r.det r'
  | _, _, _, _, .lst h e r, .tup h' e' r' => by rw [h] at h'; cases h'
  | _, _, _, _, .tup h e r, .lst h' e' r' => by rw [h] at h'; cases h'
  | _, _, _, _, .tup h e r, .tup h' e' r' => by rw [h] at h'; cases h'; rw [e] at e'; cases e'; exact r.det r'
  | _, _, _, _, .ob h e r, .ob h' e' r' => by rw [h] at h'; cases h'; rw [e] at e'; cases e'; exact r.det r'
section
variable {K : PySem.W.Frag} {G H : Hp}
theorem TRs.split : ∀ {ts : List T} {vs : List V} {F : List Addr} {k : Nat} {t : T}, TRs K G H ts vs F → ts[k]? = some t →
    ∃ v F1 Fa Fb, vs[k]? = some v ∧ TR K G H t v F1 ∧ F = Fa ++ (F1 ++ Fb) ∧
      ∀ G' H' t' F1', Same G G' → Keep (Fa ++ Fb) H H' → TR K G' H' t' v F1' → TRs K G' H' (ts.set k t') vs (Fa ++ (F1' ++ Fb))
  | _, _, _, 0, t, .cons (F := F1) (F' := F2) h r, e => by
    simp only [List.getElem?_cons_zero, Option.some.injEq] at e
    subst e
    refine ⟨_, F1, [], F2, rfl, h, rfl, fun G' H' t' F1' s k q => ?_⟩
    rw [List.nil_append]
    exact .cons q (r.keep s k)
  | _, _, _, k + 1, t, .cons (F := F0) h r, e => by
    obtain ⟨v, F1, Fa, Fb, h1, h2, h3, h4⟩ := TRs.split (k := k) (t := t) r (by simpa using e)
    refine ⟨v, F1, F0 ++ Fa, Fb, by simpa using h1, h2, by rw [h3, List.append_assoc], fun G' H' t' F1' s k q => ?_⟩
    rw [List.append_assoc]
    refine .cons (h.keep s (k.sub fun _ q => List.mem_append_left _ (List.mem_append_left _ q))) (h4 G' H' t' F1' s (k.sub fun _ q => ?_) q)
    rw [List.append_assoc]
    exact List.mem_append_right _ q
theorem TRf.split : ∀ {ts : List (Str × T)} {vs : List (Str × V)} {F : List Addr} {f : Str} {t : T}, TRf K G H ts vs F → ts.lookup f = some t →
    ∃ v F1 Fa Fb, vs.lookup f = some v ∧ TR K G H t v F1 ∧ F = Fa ++ (F1 ++ Fb) ∧
      ∀ G' H' t' F1', Same G G' → Keep (Fa ++ Fb) H H' → TR K G' H' t' v F1' → TRf K G' H' (setF f t' ts) vs (Fa ++ (F1' ++ Fb))
  | _, _, _, f, t, .nil, e => by simp at e
  | _, _, _, f, t, .cons (x := x) (F := F0) (F' := F2) h r, e => by
    rw [List.lookup_cons] at e
    by_cases hx : (f == x) = true
    · rw [hx] at e
      cases e
      refine ⟨_, F0, [], F2, by rw [List.lookup_cons, hx], h, rfl, fun G' H' t' F1' s k q => ?_⟩
      rw [List.nil_append]
      unfold setF
      rw [if_pos hx]
      exact .cons q (r.keep s k)
    · have hx' : (f == x) = false := by simpa using hx
      rw [hx'] at e
      obtain ⟨v, F1, Fa, Fb, h1, h2, h3, h4⟩ := TRf.split (f := f) (t := t) r e
      refine ⟨v, F1, F0 ++ Fa, Fb, by rw [List.lookup_cons, hx']; exact h1, h2, by rw [h3, List.append_assoc], fun G' H' t' F1' s k q => ?_⟩
      rw [List.append_assoc]
      unfold setF
      rw [if_neg hx]
      refine .cons (h.keep s (k.sub fun _ q => List.mem_append_left _ (List.mem_append_left _ q))) (h4 G' H' t' F1' s (k.sub fun _ q => ?_) q)
      rw [List.append_assoc]
      exact List.mem_append_right _ q
theorem TR.at : ∀ {π : List Stp} {t u : T} {v0 : V} {F : List Addr}, TR K G H t v0 F → T.at π t = some u →
    ∃ v F1 Fa Fb, VAt H v0 π v ∧ TR K G H u v F1 ∧ F = Fa ++ (F1 ++ Fb) ∧
      ∀ G' H' u' F1', Same G G' → Keep (Fa ++ Fb) H H' → TR K G' H' u' v F1' → ∃ t', T.put π t u' = some t' ∧ TR K G' H' t' v0 (Fa ++ (F1' ++ Fb))
  | [], t, u, v0, F, r, e => by
    cases e
    refine ⟨v0, F, [], [], .nil _, r.strip, by simp, fun G' H' u' F1' s k q => ⟨t.wrap u', rfl, by simpa using r.wrap q⟩⟩
  | .ix k :: π, t, u, v0, F, r, e => by
    have rs := r.strip
    unfold T.at at e
    unfold T.put
    generalize hts : t.strip = ts0 at e rs
    cases rs with
    | ml h r' =>
      rename_i ts a vs F0
      simp only [Option.bind_eq_some_iff] at e
      obtain ⟨c, e1, e2⟩ := e
      obtain ⟨w, Fc, Fp, Fs, h1, h2, h3, h4⟩ := r'.split e1
      obtain ⟨v, F1, Fa, Fb, g1, g2, g3, g4⟩ := TR.at h2 e2
      subst h3 g3
      refine ⟨v, F1, a :: (Fp ++ Fa), Fb ++ Fs, .lst h h1 g1, g2, by simp [List.append_assoc], fun G' H' u' F1' s kp q => ?_⟩
      obtain ⟨t', p1, p2⟩ := g4 G' H' u' F1' s (kp.sub fun x hx => by simp at hx ⊢; rcases hx with z | z <;> simp [z]) q
      refine ⟨t.wrap (.ml (List.set ts k t')), by simp only [e1, Option.bind_some, p1, Option.map_some], r.wrap ?_⟩
      have q2 := h4 G' H' t' _ s (kp.sub fun x hx => by simp at hx ⊢; rcases hx with z | z <;> simp [z]) p2
      have q3 : TR K G' H' (.ml (_)) (.ref a) _ := .ml (kp a (by simp) _ h) q2
      have e9 : (a :: (Fp ++ (Fa ++ (F1' ++ Fb) ++ Fs))) = a :: (Fp ++ Fa) ++ (F1' ++ (Fb ++ Fs)) := by simp [List.append_assoc]
      rw [e9] at q3
      exact q3
    | tp h r' =>
      rename_i ts a vs F0
      simp only [Option.bind_eq_some_iff] at e
      obtain ⟨c, e1, e2⟩ := e
      obtain ⟨w, Fc, Fp, Fs, h1, h2, h3, h4⟩ := r'.split e1
      obtain ⟨v, F1, Fa, Fb, g1, g2, g3, g4⟩ := TR.at h2 e2
      subst h3 g3
      refine ⟨v, F1, a :: (Fp ++ Fa), Fb ++ Fs, .tup h h1 g1, g2, by simp [List.append_assoc], fun G' H' u' F1' s kp q => ?_⟩
      obtain ⟨t', p1, p2⟩ := g4 G' H' u' F1' s (kp.sub fun x hx => by simp at hx ⊢; rcases hx with z | z <;> simp [z]) q
      refine ⟨t.wrap (.tp (List.set ts k t')), by simp only [e1, Option.bind_some, p1, Option.map_some], r.wrap ?_⟩
      have q2 := h4 G' H' t' _ s (kp.sub fun x hx => by simp at hx ⊢; rcases hx with z | z <;> simp [z]) p2
      have q3 : TR K G' H' (.tp (_)) (.ref a) _ := .tp (kp a (by simp) _ h) q2
      have e9 : (a :: (Fp ++ (Fa ++ (F1' ++ Fb) ++ Fs))) = a :: (Fp ++ Fa) ++ (F1' ++ (Fb ++ Fs)) := by simp [List.append_assoc]
      rw [e9] at q3
      exact q3
    | _ => cases e
  | .fd f :: π, t, u, v0, F, r, e => by
    have rs := r.strip
    unfold T.at at e
    unfold T.put
    generalize hts : t.strip = ts0 at e rs
    cases rs with
    | ob hc h h0 r' =>
      rename_i C CA ts a dx vs F0
      simp only [Option.bind_eq_some_iff] at e
      obtain ⟨c, e1, e2⟩ := e
      obtain ⟨w, Fc, Fp, Fs, h1, h2, h3, h4⟩ := r'.split e1
      obtain ⟨v, F1, Fa, Fb, g1, g2, g3, g4⟩ := TR.at h2 e2
      subst h3 g3
      refine ⟨v, F1, a :: dx :: (Fp ++ Fa), Fb ++ Fs, (VAt.ob h h1 g1), g2, by simp [List.append_assoc], fun G' H' u' F1' s kp q => ?_⟩
      obtain ⟨t', p1, p2⟩ := g4 G' H' u' F1' s (kp.sub fun x hx => by simp at hx ⊢; rcases hx with z | z <;> simp [z]) q
      refine ⟨t.wrap (.ob C (setF f t' ts)), by simp only [e1, Option.bind_some, p1, Option.map_some], r.wrap ?_⟩
      have q2 := h4 G' H' t' _ s (kp.sub fun x hx => by simp at hx ⊢; rcases hx with z | z <;> simp [z]) p2
      have q3 : TR K G' H' (.ob C (_)) (.ref a) _   := .ob hc (kp a (by simp) _ h) (kp dx (by simp) _ h0) q2
      have e9 : (a :: dx :: (Fp ++ (Fa ++ (F1' ++ Fb) ++ Fs))) = a :: dx :: (Fp ++ Fa) ++ (F1' ++ (Fb ++ Fs)) := by simp [List.append_assoc]
      rw [e9] at q3
      exact q3
    | _ => cases e
mutual
theorem TR.alive : ∀ {t : T} {v : V} {F : List Addr}, TR K G H t v F → ∀ a ∈ F, H a ≠ none
  | _, _, _, .p _, _, h => nomatch h
  | _, _, _, .sc _, _, h => nomatch h
  | _, _, _, .ml h r, a, ha => by
    rcases List.mem_cons.mp ha with z | z
    · subst z; rw [h]; exact Option.some_ne_none _
    · exact TRs.alive r a z
  | _, _, _, .tp h r, a, ha => by
    rcases List.mem_cons.mp ha with z | z
    · subst z; rw [h]; exact Option.some_ne_none _
    · exact TRs.alive r a z
  | _, _, _, .md h r, a, ha => by
    rcases List.mem_cons.mp ha with z | z
    · subst z; rw [h]; exact Option.some_ne_none _
    · cases z
  | _, _, _, .mk h r, a, ha => by
    rcases List.mem_cons.mp ha with z | z
    · subst z; rw [h]; exact Option.some_ne_none _
    · cases z
  | _, _, _, .fo _ _ _, _, h => nomatch h
  | _, _, _, .ob hc h h0 r, a, ha => by
    rcases List.mem_cons.mp ha with z | z
    · subst z; rw [h]; exact Option.some_ne_none _
    · rcases List.mem_cons.mp z with z | z
      · subst z; rw [h0]; exact Option.some_ne_none _
      · exact TRf.alive r a z
  | _, _, _, .rf r, a, ha => TR.alive r a ha
  | _, _, _, .io h r, a, ha => by
    rcases List.mem_append.mp ha with z | z
    · exact TR.alive h a z
    · exact TRs.alive r a z
theorem TRs.alive : ∀ {t : List T} {v : List V} {F : List Addr}, TRs K G H t v F → ∀ a ∈ F, H a ≠ none
  | _, _, _, .nil, _, h => nomatch h
  | _, _, _, .cons h r, a, ha => by
    rcases List.mem_append.mp ha with z | z
    · exact TR.alive h a z
    · exact TRs.alive r a z
theorem TRf.alive : ∀ {t : List (Str × T)} {v : List (Str × V)} {F : List Addr}, TRf K G H t v F → ∀ a ∈ F, H a ≠ none
  | _, _, _, .nil, _, h => nomatch h
  | _, _, _, .cons h r, a, ha => by
    rcases List.mem_append.mp ha with z | z
    · exact TR.alive h a z
    · exact TRf.alive r a z
end
theorem ES.alive : ∀ {env : En} {σ : L2.St} {F : List Addr}, ES K G H env σ F → ∀ a ∈ F, H a ≠ none
  | _, _, _, .nil, _, h => nomatch h
  | _, _, _, .no r, a, ha => ES.alive r a ha
  | _, _, _, .so h r, a, ha => by
    rcases List.mem_append.mp ha with z | z
    · exact TR.alive h a z
    · exact ES.alive r a z
/-- the part at a path of a slot, and what a change there makes of the slots -/
theorem Rel.mut {env : En} {σ : L2.St} {F : List Addr} {i : Nat} {t u : T} {π : List Stp} (rel : Rel K G H env σ F) (ei : env[i]? = some (some t)) (eu : T.at π t = some u) :
    ∃ v0 v F1 Fo, σ[i]? = some (some v0) ∧ VAt H v0 π v ∧ TR K G H u v F1 ∧ (∀ a ∈ F1, a ∈ F) ∧ F1.Nodup ∧ (∀ a ∈ Fo, a ∈ F ∧ a ∉ F1) ∧
      ∀ G' H' u' F1', Same G G' → Same G' H' → Keep Fo H H' → TR K G' H' u' v F1' → F1'.Nodup → (∀ a ∈ F1', G' a = none ∧ a ∉ Fo) → (∀ a ∈ Fo, G' a = none) →
        ∃ t' F', T.put π t u' = some t' ∧ Rel K G' H' (env.set i (some t')) σ F' ∧ ∀ a ∈ F', a ∈ F1' ∨ a ∈ Fo := by
  obtain ⟨v0, F0, Fa, Fb, h1, h2, h3, _, h5, _⟩ := rel.es.split ei
  obtain ⟨v, F1, Fc, Fd, g1, g2, g3, g4⟩ := h2.at eu
  subst h3 g3
  have nd := rel.nd
  have e0 : Fa ++ (Fc ++ (F1 ++ Fd) ++ Fb) = (Fa ++ Fc) ++ (F1 ++ (Fd ++ Fb)) := by simp [List.append_assoc]
  rw [e0] at nd
  rw [List.nodup_append] at nd
  obtain ⟨n1, n2, n3⟩ := nd
  rw [List.nodup_append] at n2
  obtain ⟨n4, n5, n6⟩ := n2
  refine ⟨v0, v, F1, (Fa ++ Fc) ++ (Fd ++ Fb), h1, g1, g2, fun a ha => by rw [e0]; simp [ha], n4, fun a ha => ⟨?_, ?_⟩, ?_⟩
  · rw [e0]
    rcases List.mem_append.mp ha with z | z
    · exact List.mem_append_left _ z
    · exact List.mem_append_right _ (List.mem_append_right _ z)
  · intro z
    rcases List.mem_append.mp ha with w | w
    · exact n3 a w a (List.mem_append_left _ z) rfl
    · exact n6 a z a w rfl
  · intro G' H' u' F1' s sg kp q nd1 fr1 fro
    obtain ⟨t', p1, p2⟩ := g4 G' H' u' F1' s (kp.sub fun x hx => by simp at hx ⊢; rcases hx with z | z <;> simp [z]) q
    have es := h5 G' H' t' _ s (kp.sub fun x hx => by simp at hx ⊢; rcases hx with z | z <;> simp [z]) p2
    have e1 : Fa ++ (Fc ++ (F1' ++ Fd) ++ Fb) = (Fa ++ Fc) ++ (F1' ++ (Fd ++ Fb)) := by simp [List.append_assoc]
    rw [e1] at es
    have mem : ∀ a ∈ (Fa ++ Fc) ++ (F1' ++ (Fd ++ Fb)), a ∈ F1' ∨ a ∈ (Fa ++ Fc) ++ (Fd ++ Fb) := fun a ha => by
      rcases List.mem_append.mp ha with z | z
      · exact .inr (List.mem_append_left _ z)
      · rcases List.mem_append.mp z with z | z
        · exact .inl z
        · exact .inr (List.mem_append_right _ z)
    refine ⟨t', _, p1, ⟨es, ?_, fun a ha => ⟨?_, es.alive a ha⟩, sg⟩, mem⟩
    · rw [List.nodup_append]
      refine ⟨n1, List.nodup_append.mpr ⟨nd1, n5, fun a ha b hb z => (fr1 a ha).2 (by subst z; exact List.mem_append_right _ hb)⟩, fun a ha b hb z => ?_⟩
      subst z
      rcases List.mem_append.mp hb with w | w
      · exact (fr1 a w).2 (List.mem_append_left _ ha)
      · exact n3 a ha a (List.mem_append_right _ w) rfl
    · rcases mem a ha with z | z
      · exact (fr1 a z).1
      · exact fro a z
/-- an owned list at a path is changed, its new items owned by what its items owned -/
theorem Rel.lset {env : En} {σ : L2.St} {F : List Addr} {i : Nat} {t : T} {ts : List T} {π : List Stp} (rel : Rel K G H env σ F) (ei : env[i]? = some (some t)) (eu : T.at π t = some (.ml ts)) :
    ∃ v0 a vs Fk, σ[i]? = some (some v0) ∧ VAt H v0 π (.ref a) ∧ H a = some (.lst vs) ∧ TRs K G H ts vs Fk ∧ a ∈ F ∧ Fk.Nodup ∧
      ∀ ts' vs' Fk', TRs K G H ts' vs' Fk' → Fk'.Nodup → (∀ b ∈ Fk', b ∈ Fk) → ∃ t' F', T.put π t (.ml ts') = some t' ∧ Rel K G (upd H a (.lst vs')) (env.set i (some t')) σ F' ∧ ∀ b ∈ F', b ∈ F := by
  obtain ⟨v0, v, F1, Fo, h1, h2, h3, h4, h5, h6, h7⟩ := rel.mut ei eu
  cases h3 with
  | ml h r =>
    rename_i a vs Fk
    refine ⟨v0, a, vs, Fk, h1, h2, h, r, h4 a List.mem_cons_self, (List.nodup_cons.mp h5).2, fun ts' vs' Fk' r' nd' sub => ?_⟩
    have na : a ∉ Fk := (List.nodup_cons.mp h5).1
    have ga : G a = none := (rel.fr a (h4 a List.mem_cons_self)).1
    have kp : ∀ L : List Addr, a ∉ L → Keep L H (upd H a (.lst vs')) := fun L hL b hb o z => by
      rw [upd_ne (fun e => by subst e; exact hL hb)]; exact z
    have fr1 : ∀ b ∈ a :: Fk', G b = none ∧ b ∉ Fo := fun b hb => by
      have hb' : b ∈ a :: Fk := by
        rcases List.mem_cons.mp hb with z | z
        · subst z; exact List.mem_cons_self
        · exact List.mem_cons_of_mem _ (sub b z)
      exact ⟨(rel.fr b (h4 b hb')).1, fun z => (h6 b z).2 hb'⟩
    obtain ⟨t', F', p1, p2, p3⟩ := h7 G (upd H a (.lst vs')) (.ml ts') (a :: Fk') (Same.refl G) (fun b o z => by
        rw [upd_ne (ne_of_none z ga)]; exact rel.sm b o z) (kp Fo fun z => (h6 a z).2 List.mem_cons_self)
      (.ml upd_same (r'.keep (Same.refl G) (kp Fk' fun z => na (sub a z)))) (List.nodup_cons.mpr ⟨fun z => na (sub a z), nd'⟩) fr1 (fun b hb => (rel.fr b (h6 b hb).1).1)
    refine ⟨t', F', p1, p2, fun b hb => ?_⟩
    rcases p3 b hb with z | z
    · rcases List.mem_cons.mp z with z | z
      · subst z; exact h4 b List.mem_cons_self
      · exact h4 b (List.mem_cons_of_mem _ (sub b z))
    · exact (h6 b z).1
theorem TRs.append : ∀ {ts us : List T} {vs ws : List V} {F F' : List Addr}, TRs K G H ts vs F → TRs K G H us ws F' → TRs K G H (ts ++ us) (vs ++ ws) (F ++ F')
  | _, _, _, _, _, _, .nil, s => s
  | _, _, _, _, _, _, .cons h r, s => by
    have q := TRs.cons h (TRs.append r s)
    rw [← List.append_assoc] at q
    exact q
theorem TRs.len : ∀ {ts : List T} {vs : List V} {F : List Addr}, TRs K G H ts vs F → vs.length = ts.length
  | _, _, _, .nil => rfl
  | _, _, _, .cons _ r => by simp [r.len]
theorem TRs.setp {v : V} {d : D} (h : Rp K G v d) : ∀ {ts : List T} {vs : List V} {F : List Addr} (k : Nat), TRs K G H ts vs F → ∃ F', TRs K G H (ts.set k (.p d)) (vs.set k v) F' ∧ F'.Sublist F
  | _, _, _, _, .nil => ⟨[], .nil, .slnil⟩
  | _, _, _, 0, .cons _ r => ⟨_, .cons (.p h) r, by simp⟩
  | _, _, _, k + 1, .cons h0 r => by
    obtain ⟨F', h1, h2⟩ := TRs.setp h k r
    exact ⟨_, .cons h0 h1, List.Sublist.append (List.Sublist.refl _) h2⟩
theorem TRs.erase : ∀ {ts : List T} {vs : List V} {F : List Addr} (k : Nat), TRs K G H ts vs F → ∃ F', TRs K G H (ts.eraseIdx k) (vs.eraseIdx k) F' ∧ F'.Sublist F
  | _, _, _, _, .nil => ⟨[], .nil, .slnil⟩
  | _, _, _, 0, .cons _ r => ⟨_, r, by simp⟩
  | _, _, _, k + 1, .cons h0 r => by
    obtain ⟨F', h1, h2⟩ := TRs.erase k r
    exact ⟨_, .cons h0 h1, List.Sublist.append (List.Sublist.refl _) h2⟩
theorem TRs.insert {v : V} {d : D} (h : Rp K G v d) : ∀ {ts : List T} {vs : List V} {F : List Addr} (k : Nat), TRs K G H ts vs F → TRs K G H (ts.take k ++ [.p d] ++ ts.drop k) (vs.take k ++ [v] ++ vs.drop k) F
  | _, _, _, _, .nil => by simp; exact .cons (F := []) (F' := []) (.p h) .nil
  | _, _, _, 0, .cons (F := F1) (F' := F2) h0 r => by
    simp
    have q := TRs.cons (TR.p (H := H) h) (TRs.cons h0 r)
    exact q
  | _, _, _, k + 1, .cons h0 r => by
    have q := TRs.insert h k r
    simp at q ⊢
    exact .cons h0 q
end
end M
namespace M
open PySem PySem.Spec PyProof.Rows L2

abbrev PMm := En → Option (Nat × List Stp)
def tP (K : PySem.W.Frag) (mp : PMm) : TE := fun σ H Q => ∃ G env F, Rel K G H env σ F ∧ ∃ i π, mp env = some (i, π) ∧ ∀ v v0 H' G', Ext G H G' H' → σ[i]? = some (some v0) → VAt H' v0 π v → Q v H'
abbrev PP (X : Cx) (e : Expr) (mp : PMm) : Prop := PE X e (tP X.K mp)
def slotT (env : En) (i : Nat) : Option T := (env[i]?).join
theorem slotT_eq {env : En} {i : Nat} {t : T} (e : slotT env i = some t) : env[i]? = some (some t) := by
  unfold slotT at e
  cases z : env[i]? with
  | none => rw [z] at e; cases e
  | some o => rw [z] at e; simp at e; rw [e]
def pVar (i : Nat) : PMm := fun env => (slotT env i).map fun _ => (i, [])
def T.own? : T → Option (List T)
  | .ml ts => some ts
  | .tp ts => some ts
  | _ => none
def pIx (mp : PMm) (mi : EM) : PMm := fun env => (mp env).bind fun q => (mi env).bind fun k => k.int?.bind fun k => (slotT env q.1).bind fun t => (T.at q.2 t).bind fun u => u.own?.bind fun ts => (ixN ts.length k).map fun j => (q.1, q.2 ++ [.ix j])
section
variable {X : Cx} {pos : Pos}
theorem pp_var (i : Nat) {x : Str} (hN : X.N[i]? = some x := by rfl) (hv : Vis X.env.scope x := by first | exact Or.inl rfl | exact Or.inr (Or.inl rfl) | exact Or.inr (Or.inr rfl)) (hd : (x == ("__debug__" : Str)) = false := by decide)
    (hcd : (x == ("__classdict__" : Str)) = false := by decide) : PP X (.Name x pos) (pVar i) := by
  refine PE_imp (pe_var hN hv hd hcd) fun σ H Q h => ?_
  obtain ⟨G, env, F, rel, j, π, e, q⟩ := h
  simp only [pVar, Option.map_eq_some_iff] at e
  obtain ⟨t, e1, e2⟩ := e
  cases e2
  obtain ⟨v, F1, Fa, Fb, h1, h2, _⟩ := rel.es.split (slotT_eq e1)
  exact ⟨v, h1, q v v H G (Ext.refl rel.sm) h1 (.nil _)⟩
/-- an owned list at a path, read and changed: the frame of the rules below -/
theorem lst_at {K : PySem.W.Frag} {G0 R G H : Hp} {env : En} {σ : L2.St} {F : List Addr} {i : Nat} {π : List Stp} {t : T} {ts : List T} {v v0 : V} (rel : Rel K G H env σ F) (hR : ∀ a ∈ F, R a = none) (x0 : Ext G0 R G H)
    (e1 : slotT env i = some t) (e2 : T.at π t = some (.ml ts)) (hs : σ[i]? = some (some v0)) (hv : VAt H v0 π v) :
    ∃ a vs Fk, v = .ref a ∧ H a = some (.lst vs) ∧ TRs K G H ts vs Fk ∧ Fk.Nodup ∧
      ∀ ts' vs' Fk', TRs K G H ts' vs' Fk' → Fk'.Nodup → (∀ b ∈ Fk', b ∈ Fk) → ∃ t', T.put π t (.ml ts') = some t' ∧ SR K G0 R (env.set i (some t')) σ (upd H a (.lst vs')) := by
  obtain ⟨v0', a, vs, Fk, h1, h2, h3, h4, h5, nd, h6⟩ := rel.lset (slotT_eq e1) e2
  have z0 : v0' = v0 := by
    have := h1.symm.trans hs
    cases this
    rfl
  subst z0
  have z1 := hv.det h2
  subst z1
  refine ⟨a, vs, Fk, rfl, h3, h4, nd, fun ts' vs' Fk' r' nd' sub => ?_⟩
  obtain ⟨t', F', p1, p2, p3⟩ := h6 ts' vs' Fk' r' nd' sub
  refine ⟨t', p1, G, F', p2, fun b hb => hR b (p3 b hb), ⟨x0.gg, fun b o z => ?_, p2.sm, x0.fr⟩⟩
  have : b ≠ a := fun q => by subst q; rw [hR b h5] at z; cases z
  rw [upd_ne this]
  exact x0.hh b o z
def updAt (mp : PMm) (f : List T → Option (List T)) : En → Option En := fun env => (mp env).bind fun q => (slotT env q.1).bind fun t => (T.at q.2 t).bind fun u => match u with
  | .ml ts => (f ts).bind fun ts' => (T.put q.2 t (.ml ts')).map fun t' => env.set q.1 (some t')
  | _ => none
theorem updAt_eq {mp : PMm} {f : List T → Option (List T)} {env env' : En} (e : updAt mp f env = some env') : ∃ i π t ts ts' t', mp env = some (i, π) ∧ slotT env i = some t ∧ T.at π t = some (.ml ts) ∧ f ts = some ts' ∧ T.put π t (.ml ts') = some t' ∧ env' = env.set i (some t') := by
  simp only [updAt, Option.bind_eq_some_iff] at e
  obtain ⟨⟨i, π⟩, e1, t, e2, u, e3, e4⟩ := e
  split at e4
  · simp only [Option.bind_eq_some_iff, Option.map_eq_some_iff] at e4
    obtain ⟨ts', e5, t', e6, rfl⟩ := e4
    exact ⟨i, π, t, _, ts', t', e1, e2, e3, e5, e6, rfl⟩
  · cases e4
def sAppend (mp : PMm) (me : EM) : SM := fun env => (me env).bind fun y => y.pure?.bind fun d => (updAt mp (fun ts => if ts.length < LIM then some (ts ++ [.p d]) else none) env).map .nx
variable {o e ie : Expr} {mp : PMm} {me mi : EM} {apos cpos : Pos}
theorem psm_append (ho : PP X o mp) (he : PM X e me) (hbase : attributeBase o "append" X.env (eval o X.env) = eval o X.env := by rfl)
    (hfew : ((backTo cpos (starEach [e] X.env)).all (fun x => !x.1) && (backToKw cpos (keywordEach [] X.env)).all (fun x => x.1.isSome)
      && decide ([e].length + ([] : List Keyword).length + (if ([] : List Keyword).isEmpty then 0 else 1) < 30)) = true := by rfl)
    (hline : (apos.endLine == cpos.line) = true := by rfl) (hs : starEach [e] X.env = (false, eval e X.env) :: starEach [] X.env := by rfl) (hsw : swapsWith (.Call (.Attribute o "append" apos) [e] [] cpos) none pos.line X.env = pure false := by rfl) :
    PSM X (.Expr (.Call (.Attribute o "append" apos) [e] [] cpos) pos) (sAppend mp me) := by
  refine PS_imp (ps_expr (pe_bm PySem.F.plainAttrs_list PySem.F.slot_list_append PySem.F.type_list_append mt_append ho (pam_cons he pam_nil hs) hbase hfew hline hs rfl) hsw) fun D σ H h => ?_
  obtain ⟨G0, R, env, ⟨G, F, rel, hR, x0⟩, o, e, g⟩ := h
  simp only [sAppend, Option.bind_eq_some_iff, Option.map_eq_some_iff] at e
  obtain ⟨y, e1, d, e2, env', e3, rfl⟩ := e
  obtain ⟨i, π, t, ts, ts', t', e4, e5, e6, e7, e8, rfl⟩ := updAt_eq e3
  refine ⟨G, env, F, rel, i, π, e4, fun v v0 H1 G1 x1 hs hv => ?_⟩
  obtain ⟨a, vs, Fk, rfl, ha, _⟩ := lst_at (rel.ext x1) hR (x0.trans x1) e5 e6 hs hv
  refine ⟨.inl ⟨rfl, vs, .inl (.inl ha)⟩, ?_⟩
  refine ⟨G1, env, F, rel.ext x1, [y], by simp [aCons, aNil, e1], fun ws H2 G2 x2 r => ?_⟩
  obtain ⟨w, F', rfl, hw⟩ := r.one
  have rw' := hw.of_pure? e2
  obtain ⟨a', vs', Fk', z, ha', ht, nk, up⟩ := lst_at ((rel.ext x1).ext x2) hR ((x0.trans x1).trans x2) e5 e6 hs (hv.mono x2.hh)
  cases z
  split at e7
  · rename_i hz
    cases e7
    refine ⟨a, vs', w, rfl, rfl, ha', by rw [ht.len]; exact Nat.lt_of_lt_of_le hz LIM_line, ?_⟩
    have q1 := ht.append (TRs.cons (TR.p (H := H2) rw') .nil)
    obtain ⟨t'', p1, p2⟩ := up _ _ _ q1 (by simpa using nk) (fun b hb => by simpa using hb)
    rw [e8] at p1
    cases p1
    exact g σ _ p2
  · cases e7
def insN (ts : List T) (k : Int) (d : D) : Option (List T) := if 0 ≤ k ∧ k < 2 ^ 62 ∧ ts.length < LIM then some (ts.take k.toNat ++ [.p d] ++ ts.drop k.toNat) else none
def sInsert (mp : PMm) (mi me : EM) : SM := fun env => (mi env).bind fun k => k.int?.bind fun k => (me env).bind fun y => y.pure?.bind fun d => (updAt mp (fun ts => insN ts k d) env).map .nx
theorem psm_insert (ho : PP X o mp) (hi : PM X ie mi) (he : PM X e me) (hbase : attributeBase o "insert" X.env (eval o X.env) = eval o X.env := by rfl)
    (hfew : ((backTo cpos (starEach [ie, e] X.env)).all (fun x => !x.1) && (backToKw cpos (keywordEach [] X.env)).all (fun x => x.1.isSome)
      && decide ([ie, e].length + ([] : List Keyword).length + (if ([] : List Keyword).isEmpty then 0 else 1) < 30)) = true := by rfl)
    (hline : (apos.endLine == cpos.line) = true := by rfl) (hs : starEach [ie, e] X.env = (false, eval ie X.env) :: starEach [e] X.env := by rfl) (hs2 : starEach [e] X.env = (false, eval e X.env) :: starEach [] X.env := by rfl) (hpl : (backTo cpos (starEach [e] X.env)).any (·.1) = false := by rfl)
    (hsw : swapsWith (.Call (.Attribute o "insert" apos) [ie, e] [] cpos) none pos.line X.env = pure false := by rfl) :
    PSM X (.Expr (.Call (.Attribute o "insert" apos) [ie, e] [] cpos) pos) (sInsert mp mi me) := by
  refine PS_imp (ps_expr (pe_bm PySem.F.plainAttrs_list PySem.F.slot_list_insert PySem.F.type_list_insert mt_insert ho (pam_cons hi (pam_cons he pam_nil hs2) hs) hbase hfew hline hs hpl) hsw) fun D σ H h => ?_
  obtain ⟨G0, R, env, ⟨G, F, rel, hR, x0⟩, o, e, g⟩ := h
  simp only [sInsert, Option.bind_eq_some_iff, Option.map_eq_some_iff] at e
  obtain ⟨tk, ek, k, ek2, y, e1, d, e2, env', e3, rfl⟩ := e
  obtain ⟨i, π, t, ts, ts', t', e4, e5, e6, e7, e8, rfl⟩ := updAt_eq e3
  refine ⟨G, env, F, rel, i, π, e4, fun v v0 H1 G1 x1 hs hv => ?_⟩
  obtain ⟨a, vs, Fk, rfl, ha, _⟩ := lst_at (rel.ext x1) hR (x0.trans x1) e5 e6 hs hv
  refine ⟨.inl ⟨rfl, vs, .inl (.inl ha)⟩, ?_⟩
  refine ⟨G1, env, F, rel.ext x1, [tk, y], by simp [aCons, aNil, e1, ek], fun ws H2 G2 x2 r => ?_⟩
  obtain ⟨w0, w, F0, F', rfl, hw0, hw⟩ := r.two
  have rw' := hw.of_pure? e2
  obtain ⟨a', vs', Fk', z, ha', ht, nk, up⟩ := lst_at ((rel.ext x1).ext x2) hR ((x0.trans x1).trans x2) e5 e6 hs (hv.mono x2.hh)
  cases z
  unfold insN at e7
  split at e7
  · rename_i hz
    cases e7
    refine ⟨a, vs', k, w, rfl, by rw [hw0.int ek2], ha', by rw [ht.len]; exact Nat.lt_of_lt_of_le hz.2.2 LIM_line, hz.1, by omega, ?_⟩
    have q1 := ht.insert rw' k.toNat
    obtain ⟨t'', p1, p2⟩ := up _ _ _ q1 nk (fun b hb => hb)
    rw [e8] at p1
    cases p1
    exact g σ _ p2
  · cases e7
/-- xs[k] = e -/
def setN (ts : List T) (k : Int) (d : D) : Option (List T) := (ixN ts.length k).map fun j => ts.set j (.p d)
def sSetIx (mp : PMm) (mi me : EM) : SM := fun env => (mi env).bind fun k => k.int?.bind fun k => (me env).bind fun y => y.pure?.bind fun d => (updAt mp (fun ts => setN ts k d) env).map .nx
theorem psm_setIx {tpos : Pos} (ho : PP X o mp) (hi : PM X ie mi) (he : PM X e me)
    (ha : ∀ v, assign (.Subscript o ie tpos) X.env v = (do
      let ov ← holding [v] (eval o X.env)
      let iv ← holding [v, ov] (eval ie X.env)
      standAt tpos
      holding [v, ov, iv] (setItem ov iv v)
      release [v, ov, iv] []) := by intro _; rfl)
    (hs : swapsWithSole [.Subscript o ie tpos] e pos.line X.env = pure false := by rfl) (hw : swappedStores [.Subscript o ie tpos] e X.env = pure none := by rfl)
    (h1 : (assignEach [.Subscript o ie tpos] X.env).map (·.2) = [assign (.Subscript o ie tpos) X.env] := by rfl) : PSM X (.Assign [.Subscript o ie tpos] e pos) (sSetIx mp mi me) := by
  refine PS_imp (ps_asg he (pg_sub ho hi set_list ha) hs hw h1) fun D σ H h => ?_
  obtain ⟨G0, R, env, ⟨G, F, rel, hR, x0⟩, o, e, g⟩ := h
  simp only [sSetIx, Option.bind_eq_some_iff, Option.map_eq_some_iff] at e
  obtain ⟨tk, ek, k, ek2, y, e1, d, e2, env', e3, rfl⟩ := e
  obtain ⟨i, π, t, ts, ts', t', e4, e5, e6, e7, e8, rfl⟩ := updAt_eq e3
  refine ⟨G, env, F, rel, y, e1, fun w H1 G1 F1 x1 r1 => ?_⟩
  refine ⟨G1, env, F, rel.ext x1, i, π, e4, fun v v0 H2 G2 x2 hs hv => ?_⟩
  refine ⟨G2, env, F, (rel.ext x1).ext x2, tk, ek, fun kv H3 G3 F3 x3 r3 => ?_⟩
  have x23 := x2.trans x3
  obtain ⟨a', vs', Fk', rfl, ha', ht, nk, up⟩ := lst_at (((rel.ext x1).ext x2).ext x3) hR (((x0.trans x1).trans x2).trans x3) e5 e6 hs (hv.mono x3.hh)
  simp only [setN, Option.map_eq_some_iff] at e7
  obtain ⟨j, e9, rfl⟩ := e7
  refine ⟨a', vs', k, j, rfl, r3.int ek2, ha', by rw [ht.len]; exact e9, ?_⟩
  obtain ⟨F4, q1, q2⟩ := ht.setp ((r1.of_pure? e2).mono x23.gg) j
  obtain ⟨t'', p1, p2⟩ := up _ _ _ q1 (nk.sublist q2) (fun b hb => q2.subset hb)
  rw [e8] at p1
  cases p1
  exact g σ _ p2
/-- xs.pop(k), its value dropped -/
def sPopAt (mp : PMm) (mi : EM) : SM := fun env => (mi env).bind fun k => k.int?.bind fun k => if -(2 ^ 62) ≤ k ∧ k < 2 ^ 62 then (updAt mp (fun ts => (ixN ts.length k).map fun j => ts.eraseIdx j) env).map .nx else none
/-- x = xs.pop(k); x another slot -/
def popN (mp : PMm) (k : Int) (env : En) : Option (En × D) := (mp env).bind fun q => (slotT env q.1).bind fun t => (T.at q.2 t).bind fun u => match u with
  | .ml ts => (ixN ts.length k).bind fun j => (ts[j]?).bind fun y => y.pure?.bind fun d => (T.put q.2 t (.ml (ts.eraseIdx j))).map fun t' => (env.set q.1 (some t'), d)
  | _ => none
theorem popN_eq {mp : PMm} {k : Int} {env env' : En} {d : D} (e : popN mp k env = some (env', d)) : ∃ i π t ts j t', mp env = some (i, π) ∧ slotT env i = some t ∧ T.at π t = some (.ml ts) ∧ ixN ts.length k = some j ∧ ts[j]? = some (.p d) ∧ T.put π t (.ml (ts.eraseIdx j)) = some t' ∧ env' = env.set i (some t') := by
  simp only [popN, Option.bind_eq_some_iff] at e
  obtain ⟨⟨i, π⟩, e1, t, e2, u, e3, e4⟩ := e
  split at e4
  · simp only [Option.bind_eq_some_iff, Option.map_eq_some_iff] at e4
    obtain ⟨j, e5, y, e6, d', e7, t', e8, e9⟩ := e4
    cases e9
    cases y with
    | p d2 => simp [T.pure?] at e7; subst e7; exact ⟨i, π, t, _, j, t', e1, e2, e3, e5, e6, e8, rfl⟩
    | _ => simp [T.pure?] at e7
  · cases e4
def sSetPopAt (x : Nat) (mp : PMm) (mi : EM) : SM := fun env => (mi env).bind fun k => k.int?.bind fun k => if -(2 ^ 62) ≤ k ∧ k < 2 ^ 62 then (popN mp k env).map fun r => .nx (r.1.set x (some (.p r.2))) else none
theorem lst_atG {K : PySem.W.Frag} {G0 R G H : Hp} {env : En} {σ : L2.St} {F : List Addr} {i : Nat} {π : List Stp} {t : T} {ts : List T} {v v0 : V} (rel : Rel K G H env σ F) (hR : ∀ a ∈ F, R a = none) (x0 : Ext G0 R G H)
    (e1 : slotT env i = some t) (e2 : T.at π t = some (.ml ts)) (hs : σ[i]? = some (some v0)) (hv : VAt H v0 π v) :
    ∃ a vs Fk, v = .ref a ∧ H a = some (.lst vs) ∧ TRs K G H ts vs Fk ∧ Fk.Nodup ∧
      ∀ ts' vs' Fk', TRs K G H ts' vs' Fk' → Fk'.Nodup → (∀ b ∈ Fk', b ∈ Fk) → ∃ t' F', T.put π t (.ml ts') = some t' ∧ Rel K G (upd H a (.lst vs')) (env.set i (some t')) σ F' ∧ (∀ a ∈ F', R a = none) ∧ Ext G0 R G (upd H a (.lst vs')) := by
  obtain ⟨v0', a, vs, Fk, h1, h2, h3, h4, h5, nd, h6⟩ := rel.lset (slotT_eq e1) e2
  have z0 : v0' = v0 := by
    have := h1.symm.trans hs
    cases this
    rfl
  subst z0
  have z1 := hv.det h2
  subst z1
  refine ⟨a, vs, Fk, rfl, h3, h4, nd, fun ts' vs' Fk' r' nd' sub => ?_⟩
  obtain ⟨t', F', p1, p2, p3⟩ := h6 ts' vs' Fk' r' nd' sub
  refine ⟨t', F', p1, p2, fun b hb => hR b (p3 b hb), ⟨x0.gg, fun b o z => ?_, p2.sm, x0.fr⟩⟩
  have : b ≠ a := fun q => by subst q; rw [hR b h5] at z; cases z
  rw [upd_ne this]
  exact x0.hh b o z
theorem psm_setPopAt {x : Str} {j : Nat} {pos' : Pos} (hN : X.N.Nodup) (ho : PP X o mp) (hi : PM X ie mi) (hj : X.N[j]? = some x := by rfl) (hx : Loc X.env.scope x := by first | exact Or.inl rfl | exact Or.inr rfl) (hbase : attributeBase o "pop" X.env (eval o X.env) = eval o X.env := by rfl)
    (hfew : ((backTo cpos (starEach [ie] X.env)).all (fun x => !x.1) && (backToKw cpos (keywordEach [] X.env)).all (fun x => x.1.isSome)
      && decide ([ie].length + ([] : List Keyword).length + (if ([] : List Keyword).isEmpty then 0 else 1) < 30)) = true := by rfl)
    (hline : (apos.endLine == cpos.line) = true := by rfl) (hs : starEach [ie] X.env = (false, eval ie X.env) :: starEach [] X.env := by rfl) (hsw : swapsWith (.Call (.Attribute o "pop" apos) [ie] [] cpos) (some (.Name x pos')) pos.line X.env = pure false := by rfl)
    (hf : X.fn x = true ∨ X.env.scope.names.lookup x = some .local := by first | exact .inl rfl | exact .inr rfl | assumption) :
    PSM X (.Assign [.Name x pos'] (.Call (.Attribute o "pop" apos) [ie] [] cpos) pos) (sSetPopAt j mp mi) := by
  refine PS_imp (ps_set hN hj hx (pe_bm PySem.F.plainAttrs_list PySem.F.slot_list_pop PySem.F.type_list_pop mt_popAt ho (pam_cons hi pam_nil hs) hbase hfew hline hs rfl) hsw hf) fun D σ H h => ?_
  obtain ⟨G0, R, env, ⟨G, F, rel, hR, x0⟩, o, e, g⟩ := h
  simp only [sSetPopAt, Option.bind_eq_some_iff] at e
  obtain ⟨tk, ek, k, ek2, e⟩ := e
  split at e
  · rename_i hk
    rw [Option.map_eq_some_iff] at e
    obtain ⟨⟨env', d⟩, e3, rfl⟩ := e
    obtain ⟨i, π, t, ts, j, t', e4, e5, e6, e7, e8, e9, rfl⟩ := popN_eq e3
    refine ⟨G, env, F, rel, i, π, e4, fun v v0 H1 G1 x1 hs hv => ?_⟩
    obtain ⟨a, vs, Fk, rfl, ha, _⟩ := lst_at (rel.ext x1) hR (x0.trans x1) e5 e6 hs hv
    refine ⟨.inl ⟨rfl, vs, .inl (.inl ha)⟩, ?_⟩
    refine ⟨G1, env, F, rel.ext x1, [tk], by simp [aCons, aNil, ek], fun ws H2 G2 x2 r => ?_⟩
    obtain ⟨w0, F0, rfl, hw0⟩ := r.one
    obtain ⟨a', vs', Fk', z, ha', ht, nk, up⟩ := lst_atG ((rel.ext x1).ext x2) hR ((x0.trans x1).trans x2) e5 e6 hs (hv.mono x2.hh)
    cases z
    obtain ⟨s1, s2, s3, s4⟩ := ixN_seq e7
    obtain ⟨y, Fy, hy, ry⟩ := ht.args.get e8
    refine ⟨a, vs', k, j, y, rfl, by rw [hw0.int ek2], ha', by omega, by omega, by rw [ht.len]; exact s1, hy, ?_⟩
    obtain ⟨F4, q1, q2⟩ := ht.erase j
    obtain ⟨t'', F5, p1, p2, p3, p4⟩ := up _ _ _ q1 (nk.sublist q2) (fun b hb => q2.subset hb)
    rw [e9] at p1
    cases p1
    exact g _ _ (SR.putp p2 p3 p4 _ ry.pure)
  · cases e
end

def tF (K : PySem.W.Frag) (m : EM) : TE := fun σ H Q => ∃ G env F, Rel K G H env σ F ∧ ∃ t, m env = some t ∧ ∀ v H' G' F', Ext G H G' H' → TR K G' H' t v F' → F'.Nodup → (∀ a ∈ F', G' a = none ∧ H a = none) → Q v H'
abbrev PF (X : Cx) (e : Expr) (m : EM) : Prop := PE X e (tF X.K m)
def tAF (K : PySem.W.Frag) (m : En → Option (List T)) : TA := fun σ H Q => ∃ G env F, Rel K G H env σ F ∧ ∃ ts, m env = some ts ∧ ∀ vs H' G' F', Ext G H G' H' → TRs K G' H' ts vs F' → F'.Nodup → (∀ a ∈ F', G' a = none ∧ H a = none) → Q vs H'
abbrev PAF (X : Cx) (es : List Expr) (m : En → Option (List T)) : Prop := PA X es (tAF X.K m)
section
variable {X : Cx} {pos : Pos} {e : Expr} {es : List Expr} {me : EM} {ms : En → Option (List T)}
def mPure (m : EM) : EM := fun env => (m env).bind fun t => t.pure?.map T.p
theorem pf_pure (h : PM X e me) : PF X e (mPure me) := by
  refine PE_imp h fun σ H Q h => ?_
  obtain ⟨G, env, F, rel, t, e1, q⟩ := h
  simp only [mPure, Option.bind_eq_some_iff, Option.map_eq_some_iff] at e1
  obtain ⟨u, e2, d, e3, rfl⟩ := e1
  exact ⟨G, env, F, rel, u, e2, fun v H' G' F' x r => q v H' G' [] x (.p (r.of_pure? e3)) .nil (fun _ z => nomatch z)⟩
theorem paf_nil : PAF X [] aNil := by
  refine PA_imp pa_nil fun σ H Q h => ?_
  obtain ⟨G, env, F, rel, ts, e, q⟩ := h
  cases e
  exact q [] H G [] (Ext.refl rel.sm) .nil .nil (fun _ z => nomatch z)
theorem Ext.not {G H G' H' : Hp} (x : Ext G H G' H') {a : Addr} (g : G a = none) (h : H a ≠ none) : G' a = none := by
  cases z : G' a with
  | none => rfl
  | some o =>
    rcases x.fr a (by rw [z]; exact Option.some_ne_none o) with w | w
    · exact absurd g w
    · exact absurd w h
theorem paf_cons (ha : PF X e me) (hr : PAF X es ms) (hs : starEach (e :: es) X.env = (false, eval e X.env) :: starEach es X.env := by rfl) : PAF X (e :: es) (aCons me ms) := by
  refine PA_imp (pa_cons ha hr hs) fun σ H Q h => ?_
  obtain ⟨G, env, F, rel, ts, e1, q⟩ := h
  simp only [aCons, Option.bind_eq_some_iff, Option.map_eq_some_iff] at e1
  obtain ⟨t, e2, tr, e3, rfl⟩ := e1
  refine ⟨G, env, F, rel, t, e2, fun x H1 G1 F1 x1 r1 n1 f1 => ?_⟩
  refine ⟨G1, env, F, rel.ext x1, tr, e3, fun ys H2 G2 F2 x2 r2 n2 f2 => ?_⟩
  refine q (x :: ys) H2 G2 (F1 ++ F2) (x1.trans x2) (.cons (r1.keep x2.gg (Keep.of x2.hh)) r2) (List.nodup_append.mpr ⟨n1, n2, fun a ha b hb z => ?_⟩) fun a ha => ?_
  · subst z
    exact r1.alive a ha (f2 a hb).2
  · rcases List.mem_append.mp ha with z | z
    · exact ⟨x2.not (f1 a z).1 (r1.alive a z), (f1 a z).2⟩
    · exact ⟨(f2 a z).1, x1.hh.free (f2 a z).2⟩
def mLstF (ms : En → Option (List T)) : EM := fun env => (ms env).bind fun ts => if ts.length ≤ LIM then some (.ml ts) else none
theorem pf_lst (h : PAF X es ms) : PF X (.List es pos) (mLstF ms) := by
  refine PE_imp (pe_lst h) fun σ H Q q => ?_
  obtain ⟨G, env, F, rel, t, e1, q⟩ := q
  simp only [mLstF, Option.bind_eq_some_iff] at e1
  obtain ⟨ts, e2, e4⟩ := e1
  split at e4
  · rename_i hz
    cases e4
    refine ⟨G, env, F, rel, ts, e2, fun vs H1 G1 F1 x1 r1 n1 f1 => ?_⟩
    refine ⟨by rw [r1.len]; exact Nat.le_trans hz LIM_line, fun p np => ?_⟩
    have x2 := Ext.fresh (o := .lst vs) x1.gh np
    refine q _ _ _ (p :: F1) (x1.trans x2) (.ml upd_same (r1.keep x2.gg (Keep.of x2.hh))) (List.nodup_cons.mpr ⟨fun z => r1.alive p z np, n1⟩) fun a ha => ?_
    rcases List.mem_cons.mp ha with z | z
    · subst z; exact ⟨x1.gh.free np, x1.hh.free np⟩
    · exact f1 a z
  · cases e4
/-- list(e) -/
def mListF (m : EM) : EM := fun env => (m env).bind fun t => t.any?.map fun ds => .ml (ds.map T.p)
/-- [c] * n, a + b: made lists -/
noncomputable def mRepF (a b : EM) : EM := fun env => (a env).bind fun x => (b env).bind fun y => x.lst?.bind fun xs => y.int?.bind fun j => if rep62 xs.length j then some (.ml ((List.replicate j.toNat xs).flatten.map T.p)) else none
variable {b : Expr} {mb : EM}
theorem pf_rep (ha : PM X e me) (hb : PM X b mb) : PF X (.BinOp e .Mult b pos) (mRepF me mb) := by
  refine PE_imp (pe_op op_rep ha hb) fun σ H Q h => ?_
  obtain ⟨G, env, F, rel, t, e1, q⟩ := h
  simp only [mRepF, Option.bind_eq_some_iff] at e1
  obtain ⟨x, e2, y, e3, xs, e4, j, e5, e6⟩ := e1
  split at e6
  · rename_i hz
    have hz : -(2 ^ 62) ≤ j ∧ j < 2 ^ 62 ∧ xs.length * j.toNat ≤ LIM := hz
    cases e6
    refine ⟨G, env, F, rel, x, e2, fun v H1 G1 F1 x1 r1 => ⟨G1, env, F, rel.ext x1, y, e3, fun w H2 G2 F2 x2 r2 => ?_⟩⟩
    obtain ⟨a, vs, rfl, h1, p1⟩ := (r1.keep x2.gg (Keep.of x2.hh)).lst x2.gh e4
    refine ⟨a, j, vs, rfl, r2.int e5, h1, by omega, by omega, by rw [p1.length]; exact Nat.le_trans hz.2.2 LIM_line, fun l nl => ?_⟩
    have x3 := Ext.fresh (o := .lst (List.replicate j.toNat vs).flatten) x2.gh nl
    refine q _ _ _ [l] ((x1.trans x2).trans x3) (.ml upd_same (TRs.of_pures (p1.rep _))) (by simp) fun c hc => ?_
    have : c = l := by simpa using hc
    subst this
    exact ⟨x2.gh.free nl, x1.hh.free (x2.hh.free nl)⟩
  · cases e6
/-- [..] of pure items, owned -/
def mLcF (mi : En → Option (List D)) (vs : List Nat) (g : D → En → Option En) (tt : En → Option Bool) (me : EM) : EM := fun env => (mi env).bind fun ds => (lcRun g tt me (wipeE env vs) ds).bind fun out => if out.length ≤ LIM then some (.ml (out.map T.p)) else none
theorem tLcF {K : PySem.W.Frag} {fz : Bool} {mi : En → Option (List D)} {js vs : List Nat} {g : D → En → Option En} {tt : En → Option Bool} {me : EM} (hj : ∀ j ∈ js, j ∈ vs) {σ : L2.St} {H : Hp} {Q : VK} (h : tF K (mLcF mi vs g tt me) σ H Q) :
    tLc (iM K fz mi) (gM K js g) (tTM K tt) (tM K me) vs σ H Q := by
  obtain ⟨G, env, F, rel, t, e, q⟩ := h
  simp only [mLcF, Option.bind_eq_some_iff] at e
  obtain ⟨ds, e1, out, e2, e3⟩ := e
  split at e3
  · rename_i hz
    cases e3
    refine lcM hj ⟨G, env, F, rel, ds, out, e1, e2, hz, fun p vs' H' G' x hp gp h1 h2 => ?_⟩
    refine q _ H' G' [p] x (.ml h1 (TRs.of_pures h2)) (by simp) fun b hb => ?_
    have : b = p := by simpa using hb
    subst this
    exact ⟨gp, hp⟩
  · cases e3
def sSetF (i : Nat) (m : EM) : SM := fun env => (m env).map fun t => .nx (env.set i (some t))
theorem tSetF {K : PySem.W.Frag} {i : Nat} {m : EM} {D : Ends} {σ : L2.St} {H : Hp} (h : tS K (sSetF i m) D σ H) : tF K m σ H fun x H1 => gName i x σ H1 D.nx := by
  obtain ⟨G0, R, env, ⟨G, F, rel, hR, x0⟩, o, e, g⟩ := h
  simp only [sSetF, Option.map_eq_some_iff] at e
  obtain ⟨t, e1, rfl⟩ := e
  refine ⟨G, env, F, rel, t, e1, fun v H' G' F' x r nd fr => g _ H' ?_⟩
  have rel' := rel.ext x
  obtain ⟨F2, h1, h2, h3⟩ := ES.put r i rel'.es
  have dj : ∀ a ∈ F', a ∉ F := fun a ha z => (rel.fr a z).2 (fr a ha).2
  refine ⟨G', F2, ⟨h1, h3 rel.nd nd dj, fun a ha => ⟨?_, h1.alive a ha⟩, x.gh⟩, fun a ha => ?_, x0.trans x⟩
  · rcases h2 a ha with z | z
    · exact (fr a z).1
    · exact (rel'.fr a z).1
  · rcases h2 a ha with z | z
    · exact x0.hh.free (fr a z).2
    · exact hR a z
theorem psm_setF {i : Nat} {x : Str} {pos' : Pos} (hN : X.N.Nodup) (he : PF X e me) (hi : X.N[i]? = some x := by rfl) (hx : Loc X.env.scope x := by first | exact Or.inl rfl | exact Or.inr rfl) (hs : swapsWith e (some (.Name x pos')) pos.line X.env = pure false := by rfl) (hf : X.fn x = true ∨ X.env.scope.names.lookup x = some .local := by first | exact .inl rfl | exact .inr rfl | assumption) :
    PSM X (.Assign [.Name x pos'] e pos) (sSetF i me) := PS_imp (ps_set hN hi hx he hs hf) fun D σ H h => tSetF h
theorem psm_setLcF {i : Nat} {y : Str} {py spos : Pos} {elt tg iter : Expr} {ifs : List Expr} {scope : Scope} {own : List (Str × Nat)} {fz : Bool} {mi : En → Option (List D)} {js : List Nat} {g : D → En → Option En} {tt : En → Option Bool} {me : EM} (hc : X.calm = true) (hN : X.N.Nodup)
    (hi : PIM X tg iter fz mi) (ok : BlkOk X.N X.env.scope scope own)
    (hg : ∀ (s : Shared) (H : Hp) (C : Addr) (cl : List (Str × Addr)) (fp : List Addr), GM (X.blk s H scope (compEnvC scope cl C X.env) fp) tg js g) (ht : ∀ (s : Shared) (H : Hp) (C : Addr) (cl : List (Str × Addr)) (fp : List Addr), PTsM (X.blk s H scope (compEnvC scope cl C X.env) fp) ifs tt)
    (he : ∀ (s : Shared) (H : Hp) (C : Addr) (cl : List (Str × Addr)) (fp : List Addr), PM (X.blk s H scope (compEnvC scope cl C X.env) fp) elt me)
    (hsw : swapsWith (.ListComp elt [⟨tg, iter, ifs, 0⟩] scope pos) (some (.Name y py)) spos.line X.env = pure true) (hy : X.N[i]? = some y := by rfl) (hyl : X.env.scope.names.lookup y = some .local := by rfl)
    (hj : ∀ j ∈ js, j ∈ own.map (·.2) := by decide) (hs : ∀ x, foldedSetIterable iter X.env x = pure x := by intro _; rfl) :
    PSM X (.Assign [.Name y py] (.ListComp elt [⟨tg, iter, ifs, 0⟩] scope pos) spos) (sSetF i (mLcF mi (own.map (·.2)) g tt me)) :=
  PS_imp (ps_setLc hc hN hy hyl hsw hi ok hg ht he hs) fun D σ H h => tLcF hj (tSetF h)
end
end M
namespace M
open PySem PySem.Spec PyProof.Rows L2

def lcRunT (g : D → En → Option En) (tt : En → Option Bool) (me : EM) (env : En) : List D → Option (List T)
  | [] => some []
  | d :: r => (g d env).bind fun e => (tt e).bind fun b => if b then (me e).bind fun t => (lcRunT g tt me env r).map fun ys => t :: ys else lcRunT g tt me env r
def mLcT (mi : En → Option (List D)) (vs : List Nat) (g : D → En → Option En) (tt : En → Option Bool) (me : EM) : EM := fun env => (mi env).bind fun ds => (lcRunT g tt me (wipeE env vs) ds).bind fun out => if out.length ≤ LIM then some (.ml out) else none
section
variable {X : Cx} {pos : Pos}
end

inductive PArgs (K : PySem.W.Frag) (G H : Hp) : List T → List V → Prop
  | nil : PArgs K G H [] []
  | cons {t : T} {v : V} {ts : List T} {vs : List V} : TR K G H t v [] → PArgs K G H ts vs → PArgs K G H (t :: ts) (v :: vs)
theorem PArgs.es {K : PySem.W.Frag} {G H : Hp} : ∀ {ts : List T} {vs : List V} (n : Nat), PArgs K G H ts vs → ES K G H (ts.map some ++ List.replicate n none) (vs.map some ++ List.replicate n none) []
  | _, _, 0, .nil => .nil
  | _, _, n + 1, .nil => .no (PArgs.es n .nil)
  | _, _, n, .cons h r => by
    have q := ES.so h (PArgs.es n r)
    exact q
theorem PArgs.length {K : PySem.W.Frag} {G H : Hp} : ∀ {ts : List T} {vs : List V}, PArgs K G H ts vs → ts.length = vs.length
  | _, _, .nil => rfl
  | _, _, .cons _ r => by simp [r.length]
def startE (n : Nat) (ts : List T) : En := ts.map some ++ List.replicate (n - ts.length) none
def runFn (n : Nat) (body : SM) : List T → Option T := fun ts => (body (startE n ts)).bind fun o => match o with
  | .rt t => some t
  | .nx _ => some (.p .none)
  | _ => none
def spT (K : PySem.W.Frag) (np : Nat) (fn : List T → Option T) : Sp := fun vs H Q _ => vs.length = np ∧ ∃ G ts, Same G H ∧ PArgs K G H ts vs ∧ ∃ t, fn ts = some t ∧ ∀ v H', RR K G H t v H' → Q v H'
theorem fn_ok {P : Program} {w : World} {K : PySem.W.Frag} {mg : Str → Option Value} {base : Heap} {x qual : Str} {st : Stmt} {f : Addr} {fd : FuncData} {N ps : List Str} {k : Nat} {body : SM} (F : Fun K x qual st f fd) (S : FnScope N ps (defScope st))
    (hb : ∀ (cdv : Value) (A : Around) (outer : List Env) (s : Shared) (H : Hp) (E : XK), Room k (A.deeper (envOfC qual (defScope st) s.heap.objs.size f cdv)) → PSsM (cxOf CX0 P w K mg base N qual (defScope st) f cdv A outer s H E).nox (defBody st) body) :
    FnOk P w K mg base CX0 (k + 1) f fd ps (spT K ps.length (runFn N.length body)) := by
  refine F.ok S (fun vs H Q E h => h.1) fun cdv A outer s H vs Q E hr h => ⟨_, hb cdv A outer s H E hr, ?_⟩
  obtain ⟨hl, G, ts, sg, pa, t, e, q⟩ := h
  simp only [runFn, Option.bind_eq_some_iff] at e
  obtain ⟨o, e1, e2⟩ := e
  have es := pa.es (N.length - vs.length)
  refine ⟨G, H, startE N.length ts, ⟨G, [], ⟨?_, .nil, (fun _ z => nomatch z), sg⟩, (fun _ z => nomatch z), Ext.refl sg⟩, o, e1, ?_⟩
  · unfold startE L2.start
    rw [pa.length]
    exact es
  · cases o with
    | nx e =>
      cases e2
      rintro σ' H' ⟨G', F', rel, _, x⟩
      exact q _ H' ⟨G', [], x, .p .non, .nil, fun _ z => nomatch z⟩
    | rt u => cases e2; exact fun v H' r => q v H' r
    | bk e => cases e2
    | ct e => cases e2
def T.frozen : T → Bool
  | .p _ => true
  | .sc _ => true
  | .fo _ _ => true
  | _ => false
/-- fields as data -/
def snapF : List (Str × T) → Option (List (Str × D))
  | [] => some []
  | (x, t) :: r => t.snap.bind fun d => (snapF r).map fun ds => (x, d) :: ds
def T.view : T → Option T
  | .sc ns => some (.sc ns)
  | .fo n fs => some (.fo n fs)
  | .ob n fs => (snapF fs).map (T.fo n)
  | t => t.snap.map T.p
theorem TRf.snapF {K : PySem.W.Frag} {G H : Hp} (s : Same G H) : ∀ {fs : List (Str × T)} {vfs : List (Str × V)} {F : List Addr} {ds : List (Str × D)}, TRf K G H fs vfs F → M.snapF fs = some ds → FR0 K H vfs ds
  | _, _, _, _, .nil, e => by simp [M.snapF] at e; subst e; exact .nil
  | _, _, _, _, .cons h r, e => by
    simp only [M.snapF, Option.bind_eq_some_iff, Option.map_eq_some_iff] at e
    obtain ⟨d, e1, ds, e2, rfl⟩ := e
    exact .cons (h.live s e1) (TRf.snapF s r e2)
def views : List T → Option (List T)
  | [] => some []
  | t :: r => t.view.bind fun u => (views r).map fun us => u :: us
def callT (fn : List T → Option T) (ts : List T) : Option T :=
  if ts.all T.frozen then (fn ts).bind fun t => t.snap.map T.p
  else (views ts).bind fun us => (fn us).bind fun t => t.pure?.bind fun d => if flatD d then some (.p d) else none
theorem Args.frozen {K : PySem.W.Frag} {G H : Hp} : ∀ {ts : List T} {vs : List V}, Args K G H ts vs → ts.all T.frozen = true → PArgs K G H ts vs
  | _, _, .nil, _ => .nil
  | _, _, .cons (t := t) h r, e => by
    rw [List.all_cons, Bool.and_eq_true] at e
    refine .cons ?_ (r.frozen e.2)
    cases h with
    | p h => exact .p h
    | sc h => exact .sc h
    | fo hc h r => exact .fo hc h r
    | _ => simp [T.frozen] at e
theorem Args.views {K : PySem.W.Frag} {G H : Hp} (s : Same G H) : ∀ {ts us : List T} {vs : List V}, Args K G H ts vs → M.views ts = some us → PArgs K H H us vs
  | _, _, _, .nil, e => by simp [M.views] at e; subst e; exact .nil
  | _, _, _, .cons (t := t) h r, e => by
    simp only [M.views, Option.bind_eq_some_iff, Option.map_eq_some_iff] at e
    obtain ⟨u, e1, us, e2, rfl⟩ := e
    refine .cons ?_ (r.views s e2)
    cases h with
    | sc h => simp [T.view] at e1; subst e1; exact .sc (s.seq h)
    | io _ _ => simp [T.view, T.snap] at e1
    | p h =>
      simp [T.view, T.snap] at e1; subst e1; exact .p (h.mono s)
    | ml h r =>
      simp only [T.view, Option.map_eq_some_iff] at e1
      obtain ⟨d, e3, rfl⟩ := e1
      exact .p ((TR.ml h r).live s e3)
    | tp h r =>
      simp only [T.view, Option.map_eq_some_iff] at e1
      obtain ⟨d, e3, rfl⟩ := e1
      exact .p ((TR.tp h r).live s e3)
    | md h r =>
      simp only [T.view, Option.map_eq_some_iff] at e1
      obtain ⟨d, e3, rfl⟩ := e1
      exact .p ((TR.md (G := G) h r).live s e3)
    | mk h r =>
      simp only [T.view, Option.map_eq_some_iff] at e1
      obtain ⟨d, e3, rfl⟩ := e1
      simp [T.snap] at e3
    | fo hc h r => simp [T.view] at e1; subst e1; exact .fo hc (s _ _ h) (r.mono s)
    | ob hc h h' r =>
      simp only [T.view, Option.map_eq_some_iff] at e1
      obtain ⟨d, e3, rfl⟩ := e1
      exact .fo hc h (TRf.snapF s r e3)
    | rf r =>
      simp only [T.view, Option.map_eq_some_iff] at e1
      obtain ⟨d, e3, rfl⟩ := e1
      exact .p ((TR.rf r).live s e3)
theorem TR.freeze {K : PySem.W.Frag} {G H : Hp} {t : T} {v : V} {F : List Addr} {d : D} (r : TR K G H t v F) (s : Same G H) (fr : ∀ a ∈ F, G a = none) (e : t.snap = some d) : ∃ G', Same G G' ∧ Same G' H ∧ Rp K G' v d ∧ ∀ a, G' a ≠ none → G a ≠ none ∨ a ∈ F := by
  refine ⟨fun a => if a ∈ F then H a else G a, fun a u z => ?_, fun a u z => ?_, ?_, fun a z => ?_⟩
  · show (if a ∈ F then H a else G a) = some u
    by_cases ha : a ∈ F
    · rw [fr a ha] at z; cases z
    · rw [if_neg ha]; exact z
  · have z' : (if a ∈ F then H a else G a) = some u := z
    by_cases ha : a ∈ F
    · rw [if_pos ha] at z'; exact z'
    · rw [if_neg ha] at z'; exact s a u z'
  · refine r.data (fun a u z => ?_) (fun a ha u z => ?_) e
    · show (if a ∈ F then H a else G a) = some u
      by_cases ha : a ∈ F
      · rw [fr a ha] at z; cases z
      · rw [if_neg ha]; exact z
    · show (if a ∈ F then H a else G a) = some u
      rw [if_pos ha]; exact z
  · have z' : (if a ∈ F then H a else G a) ≠ none := z
    by_cases ha : a ∈ F
    · exact .inr ha
    · rw [if_neg ha] at z'; exact .inl z'
section
variable {X : Cx} {k np : Nat} {f : Addr} {fd : FuncData} {ps : List Str} {fn : List T → Option T} {x : Str} {e : Expr} {es : List Expr} {ms : En → Option (List T)} {p pos : Pos}
theorem tCallM {K : PySem.W.Frag} {E : XK} (hnp : ∀ env ts, ms env = some ts → ts.length = np) {σ : L2.St} {H : Hp} {Q : VK} (h : tM K (mCall (callT fn) ms) σ H Q) : tCall (spT K np fn) [] E (tAM K ms) σ H Q := by
  obtain ⟨G, env, F, rel, t, e1, q⟩ := h
  simp only [mCall, Option.bind_eq_some_iff] at e1
  obtain ⟨ts, e2, e3⟩ := e1
  refine ⟨G, env, F, rel, ts, e2, fun vs H1 G1 x1 r1 => ?_⟩
  show spT K np fn (vs ++ []) H1 Q E
  rw [List.append_nil]
  refine ⟨by rw [← r1.length]; exact hnp env ts e2, ?_⟩
  unfold callT at e3
  split at e3
  · rename_i hf
    simp only [Option.bind_eq_some_iff, Option.map_eq_some_iff] at e3
    obtain ⟨u, e4, d, e5, rfl⟩ := e3
    refine ⟨G1, ts, x1.gh, r1.frozen hf, u, e4, fun v H' rr => ?_⟩
    obtain ⟨G2, F2, x2, r2, n2, f2⟩ := rr
    obtain ⟨G3, s1, s2, rp, fr⟩ := r2.freeze x2.gh (fun a ha => (f2 a ha).1) e5
    refine q v H' G3 [] (x1.trans ⟨x2.gg.trans s1, x2.hh, s2, fun a z => ?_⟩) (.p rp)
    rcases fr a z with w | w
    · exact x2.fr a w
    · exact .inr (f2 a w).2
  · simp only [Option.bind_eq_some_iff] at e3
    obtain ⟨us, e4, u, e5, d, e6, e7⟩ := e3
    split at e7
    · rename_i hd
      cases e7
      refine ⟨H1, us, Same.refl _, r1.views x1.gh e4, u, e5, fun v H' rr => ?_⟩
      obtain ⟨G2, F2, x2, r2, n2, f2⟩ := rr
      have rp := r2.of_pure? e6
      refine q v H' G1 [] (x1.trans ⟨Same.refl _, x2.hh, x1.gh.trans x2.hh, fun a z => .inl z⟩) (.p ?_)
      cases rp with
      | non => exact .non
      | bl b => exact .bl b
      | int i => exact .int i
      | str y => exact .str y
      | lst _ _ => simp [flatD] at hd
      | tup _ _ => simp [flatD] at hd
      | dct _ _ => simp [flatD] at hd
    · cases e7
theorem pm_call (F : FnOk X.prog X.w X.K X.mg X.base CX0 k f fd ps (spT X.K np fn)) (hr : Room k X.A) (hg : Gl X x) (hm : X.mg x = some (.ref f)) (hk : PySem.W.keepIn X.K (.ref f) = true) (hb : Binds X.K fd ps []) (ha : PAM X (e :: es) ms)
    (hnp : ∀ env ts, ms env = some ts → ts.length = np)
    (hd : (x == ("__debug__" : Str)) = false := by decide) (he : starEach (e :: es) X.env = (false, eval e X.env) :: starEach es X.env := by rfl) (hpl : (backTo pos (starEach es X.env)).any (·.1) = false := by rfl) :
    PM X (.Call (.Name x p) (e :: es) [] pos) (mCall (callT fn) ms) :=
  PE_imp (pe_call F hr hg hm hk hb .nil pass0 ha hd he hpl) fun _ _ _ h => tCallM hnp h
end
theorem len1 {a : EM} : ∀ env ts, aCons a aNil env = some ts → ts.length = 1 := fun env ts e => by
  simp only [aCons, aNil, Option.bind_eq_some_iff, Option.map_eq_some_iff] at e
  obtain ⟨_, _, _, e, rfl⟩ := e
  cases e; rfl
theorem lenS {a : EM} {ms : En → Option (List T)} {n : Nat} (h : ∀ env ts, ms env = some ts → ts.length = n) : ∀ env ts, aCons a ms env = some ts → ts.length = n + 1 := fun env ts e => by
  simp only [aCons, Option.bind_eq_some_iff, Option.map_eq_some_iff] at e
  obtain ⟨_, _, _, e, rfl⟩ := e
  simp [h _ _ e]
section
variable {X : Cx} {e : Expr} {me : EM} {pos : Pos}
def sRetF (m : EM) : SM := fun env => (m env).map .rt
/-- return x, x owned -/
def sRetV (i : Nat) : SM := fun env => (slotT env i).map .rt
theorem psm_retV (i : Nat) {x : Str} {p : Pos} (hN : X.N[i]? = some x := by rfl) (hv : Vis X.env.scope x := by first | exact Or.inl rfl | exact Or.inr (Or.inl rfl) | exact Or.inr (Or.inr rfl)) (hd : (x == ("__debug__" : Str)) = false := by decide)
    (hcd : (x == ("__classdict__" : Str)) = false := by decide) : PSM X (.Return (some (.Name x p)) pos) (sRetV i) := by
  refine PS_imp (ps_ret (pe_var hN hv hd hcd)) fun D σ H h => ?_
  obtain ⟨G0, R, env, ⟨G, F, rel, hR, x0⟩, o, e, g⟩ := h
  simp only [sRetV, Option.map_eq_some_iff] at e
  obtain ⟨t, e1, rfl⟩ := e
  obtain ⟨v, F1, Fa, Fb, h1, h2, h3, _⟩ := rel.es.split (slotT_eq e1)
  have m1 : ∀ a ∈ F1, a ∈ F := fun a ha => by rw [h3]; exact List.mem_append_right _ (List.mem_append_left _ ha)
  refine ⟨v, h1, g v H ⟨G, F1, x0, h2, ?_, fun a ha => ⟨(rel.fr a (m1 a ha)).1, hR a (m1 a ha)⟩⟩⟩
  have nd := rel.nd
  rw [h3] at nd
  exact (List.nodup_append.mp (List.nodup_append.mp nd).2.1).1
end
def spLaw (n : Nat) (K : PySem.W.Frag) : Sp := fun vs H Q _ => ∃ (a : Addr) (ns : List Int), vs = [.ref a] ∧ SqL K H a (ns.map V.int) ∧ ns.length ≤ n ∧ ∀ H', Q (.bl true) H'
theorem law_ok {P : Program} {w : World} {K : PySem.W.Frag} {mg : Str → Option Value} {base : Heap} {k n : Nat} {f : Addr} {fd : FuncData} {ps : List Str} {fn : List T → Option T} (F : FnOk P w K mg base CX0 k f fd ps (spT K 1 fn))
    (h : ∀ ns : List Int, ns.length ≤ n → fn [.sc ns] = some (.p (.bool true))) : FnOk P w K mg base CX0 k f fd ps (spLaw n K) := by
  refine F.imp fun vs H Q E hq => ?_
  obtain ⟨a, ns, rfl, hs, hn, q⟩ := hq
  refine ⟨rfl, H, [.sc ns], Same.refl _, .cons (.sc hs) .nil, _, h ns hn, fun v H' rr => ?_⟩
  obtain ⟨G, F, x, r, _⟩ := rr
  cases r.pure
  exact q H'
end M
namespace M
open PySem PySem.Spec PyProof.Rows L2
def FUEL : Nat := 1000000
theorem bt_len : bootBuiltins "len" = some (.builtin "len") := by decide +kernel
theorem bt_max : bootBuiltins "max" = some (.builtin "max") := by decide +kernel
theorem bt_min : bootBuiltins "min" = some (.builtin "min") := by decide +kernel
theorem bt_sum : bootBuiltins "sum" = some (.builtin "sum") := by decide +kernel
theorem bt_all : bootBuiltins "all" = some (.builtin "all") := by decide +kernel
theorem bt_abs : bootBuiltins "abs" = some (.builtin "abs") := by decide +kernel
theorem bt_tuple : bootBuiltins "tuple" = some (.type "tuple") := by decide +kernel
theorem bt_int : bootBuiltins "int" = some (.type "int") := by decide +kernel
end M
namespace M
open PySem PySem.Spec PyProof.Rows L2
section
variable {a b c : EM} {sa sb : SM} {env : En} {ba bb : En → Option Bool} {as : En → Option (List T)}
@[simp] theorem ev_sCons : sCons sa sb env = (sa env).bind fun o => match o with | .nx e => sb e | o => some o := rfl
@[simp] theorem ev_sNil : sNil env = some (.nx env) := rfl
@[simp] theorem ev_sPass : sPass env = some (.nx env) := rfl
@[simp] theorem ev_sBreak : sBreak env = some (.bk env) := rfl
@[simp] theorem ev_sContinue : sContinue env = some (.ct env) := rfl
@[simp] theorem ev_sIf : sIf ba sa sb env = (ba env).bind fun k => if k then sa env else sb env := rfl
@[simp] theorem ev_sExpr : sExpr a env = (a env).map fun _ => .nx env := rfl
@[simp] theorem ev_sRet : sRet a env = (a env).bind fun t => t.pure?.map fun d => .rt (.p d) := rfl
@[simp] theorem ev_sRetF : sRetF a env = (a env).map .rt := rfl
@[simp] theorem ev_sRetV {i : Nat} : sRetV i env = ((env[i]?).join).map .rt := rfl
@[simp] theorem ev_sSet {i : Nat} : sSet i a env = (a env).bind fun t => t.pure?.map fun d => .nx (env.set i (some (.p d))) := rfl
@[simp] theorem ev_sSetF {i : Nat} : sSetF i a env = (a env).map fun t => .nx (env.set i (some t)) := rfl
@[simp] theorem ev_sAsg {g : D → En → Option En} : sAsg g a env = (a env).bind fun t => t.pure?.bind fun d => (g d env).map .nx := rfl
@[simp] theorem ev_sFor {mi : En → Option (List D)} {g : D → En → Option En} : sFor mi g sa env = (mi env).bind fun ds => forRun g sa ds env := rfl
@[simp] theorem ev_sWhile {n : Nat} : sWhile n ba sa env = whileRun ba sa n env := rfl
@[simp] theorem ev_mVar {i : Nat} : mVar i env = ((env[i]?).join).map T.strip := rfl
@[simp] theorem ev_mC {d : D} : mC d env = some (.p d) := rfl
@[simp] theorem ev_mOp {f : T → T → Option T} : mOp f a b env = (a env).bind fun x => (b env).bind fun y => f x y := rfl
@[simp] theorem ev_mCall {f : List T → Option T} : mCall f as env = (as env).bind f := rfl
@[simp] theorem ev_aNil : aNil env = some [] := rfl
@[simp] theorem ev_aCons : aCons a as env = (a env).bind fun x => (as env).map fun xs => x :: xs := rfl
@[simp] theorem ev_bVal : bVal a env = (a env).bind T.bool? := rfl
@[simp] theorem ev_bOp {f : T → T → Option T} : bOp f a b env = ((a env).bind fun x => (b env).bind fun y => f x y).bind T.bool? := rfl
@[simp] theorem ev_bAnd : bAnd ba bb env = (ba env).bind fun x => if x then bb env else some false := rfl
@[simp] theorem ev_bOr : bOr ba bb env = (ba env).bind fun x => if x then some true else bb env := rfl
@[simp] theorem ev_bNot : bNot ba env = (ba env).map fun x => !x := rfl
@[simp] theorem ev_bYes : bYes env = some true := rfl
@[simp] theorem ev_mAnd : mAnd a b env = (a env).bind fun x => x.bool?.bind fun c => if c then b env else some (.p (.bool false)) := rfl
@[simp] theorem ev_mOr : mOr a b env = (a env).bind fun x => x.bool?.bind fun c => if c then some (.p (.bool true)) else b env := rfl
@[simp] theorem ev_mNot : mNot a env = (a env).bind fun x => x.bool?.map fun c => .p (.bool !c) := rfl
@[simp] theorem ev_mIf : mIf ba a b env = (ba env).bind fun x => if x then a env else b env := rfl
@[simp] theorem ev_mChain {f g : T → T → Option T} : mChain f g a b c env = (a env).bind fun x => (b env).bind fun y => (f x y).bind fun z => z.bool?.bind fun k => if k then (c env).bind fun u => g y u else some (.p (.bool false)) := rfl
@[simp] theorem ev_mTup : mTup as env = (as env).bind fun ts => (pures ts).bind fun ds => if ds.length ≤ LIM then some (.p (.tuple ds)) else none := rfl
@[simp] theorem ev_mLst : mLst as env = (as env).bind fun ts => (pures ts).bind fun ds => if ds.length ≤ LIM then some (.p (.list ds)) else none := rfl
@[simp] theorem ev_mLstF : mLstF as env = (as env).bind fun ts => if ts.length ≤ LIM then some (.ml ts) else none := rfl
@[simp] theorem ev_mPure : mPure a env = (a env).bind fun t => t.pure?.map T.p := rfl
@[simp] theorem ev_mNeg : mNeg a env = (a env).bind fun t => t.int?.map fun i => .p (.int (-i)) := rfl
@[simp] theorem ev_mSlice {lo hi : OM} : mSlice a lo hi env = (a env).bind fun t => (lo env).bind fun x => (hi env).bind fun y => sliceT t x y := rfl
@[simp] theorem ev_oNone : oNone env = some none := rfl
@[simp] theorem ev_oSome : oSome a env = (a env).bind fun t => t.int?.map some := rfl
@[simp] theorem ev_iSeq : iSeq a env = (a env).bind T.fz? := rfl
@[simp] theorem ev_iSeqB : iSeqB a env = (a env).bind T.any? := rfl
@[simp] theorem ev_iRng1 : M.iRng1 a env = (a env).bind fun t => t.int?.bind fun j => if smallI j then some (rangeD 0 j) else none := rfl
@[simp] theorem ev_iRng2 : M.iRng2 a b env = (a env).bind fun t => t.int?.bind fun i => (b env).bind fun u => u.int?.bind fun j => if smallI i ∧ smallI j then some (rangeD i j) else none := rfl
@[simp] theorem ev_iEn : iEn a env = (a env).bind fun t => t.fzl?.map fun xs => enumD 0 xs := rfl
@[simp] theorem ev_gNm {i : Nat} {d : D} : gNm i d env = some (env.set i (some (.p d))) := rfl
@[simp] theorem ev_gNl : gNl [] env = some env := rfl
@[simp] theorem ev_gCn {g : D → En → Option En} {gs : List D → En → Option En} {d : D} {r : List D} : gCn g gs (d :: r) env = (g d env).bind fun e => gs r e := rfl
@[simp] theorem ev_gTp {gs : List D → En → Option En} {ds : List D} : gTp gs (.tuple ds) env = gs ds env := rfl
@[simp] theorem ev_mLc {mi : En → Option (List D)} {vs : List Nat} {g : D → En → Option En} : mLc mi vs g ba a env = (mi env).bind fun ds => (lcRun g ba a (wipeE env vs) ds).bind fun out => if out.length ≤ LIM then some (.p (.list out)) else none := rfl
@[simp] theorem ev_mLcF {mi : En → Option (List D)} {vs : List Nat} {g : D → En → Option En} : mLcF mi vs g ba a env = (mi env).bind fun ds => (lcRun g ba a (wipeE env vs) ds).bind fun out => if out.length ≤ LIM then some (.ml (out.map T.p)) else none := rfl
@[simp] theorem ev_mLcT {mi : En → Option (List D)} {vs : List Nat} {g : D → En → Option En} : mLcT mi vs g ba a env = (mi env).bind fun ds => (lcRunT g ba a (wipeE env vs) ds).bind fun out => if out.length ≤ LIM then some (.ml out) else none := rfl
@[simp] theorem ev_mIsi {n : String} : mIsi n a env = (a env).bind (isiT n) := rfl
@[simp] theorem ev_mListF : mListF a env = (a env).bind fun t => t.any?.map fun ds => .ml (ds.map T.p) := rfl
@[simp] theorem ev_mListR1 : mListR1 a env = (a env).bind fun t => t.int?.bind fun j => if j ≤ 1000000 ∧ -1000000 ≤ j then some (.p (.list (rangeD 0 j))) else none := rfl
@[simp] theorem ev_mRepF : mRepF a b env = (a env).bind fun x => (b env).bind fun y => x.lst?.bind fun xs => y.int?.bind fun j => if rep62 xs.length j then some (.ml ((List.replicate j.toNat xs).flatten.map T.p)) else none := rfl
@[simp] theorem ev_sAppend {mp : PMm} : sAppend mp a env = (a env).bind fun y => y.pure?.bind fun d => (updAt mp (fun ts => if ts.length < LIM then some (ts ++ [.p d]) else none) env).map .nx := rfl
@[simp] theorem ev_sSetIx {mp : PMm} : sSetIx mp a b env = (a env).bind fun k => k.int?.bind fun k => (b env).bind fun y => y.pure?.bind fun d => (updAt mp (fun ts => setN ts k d) env).map .nx := rfl
@[simp] theorem ev_sPopAt {mp : PMm} : sPopAt mp a env = (a env).bind fun k => k.int?.bind fun k => if -(2 ^ 62) ≤ k ∧ k < 2 ^ 62 then (updAt mp (fun ts => (ixN ts.length k).map fun j => ts.eraseIdx j) env).map .nx else none := rfl
@[simp] theorem ev_sInsert {mp : PMm} : sInsert mp a b env = (a env).bind fun k => k.int?.bind fun k => (b env).bind fun y => y.pure?.bind fun d => (updAt mp (fun ts => insN ts k d) env).map .nx := rfl
@[simp] theorem ev_sFrz {i : Nat} : sFrz i sa env = (match env[i]? with | some (some t) => t.snap.bind fun d => sa (env.set i (some (.p d))) | _ => sa env) := rfl
@[simp] theorem ev_pVar {i : Nat} : pVar i env = (slotT env i).map fun _ => (i, []) := rfl
@[simp] theorem ev_slotT {i : Nat} : slotT env i = (env[i]?).join := rfl
@[simp] theorem ev_updAt {mp : PMm} {f : List T → Option (List T)} : updAt mp f env = (mp env).bind fun q => (slotT env q.1).bind fun t => (T.at q.2 t).bind fun u => match u with
  | .ml ts => (f ts).bind fun ts' => (T.put q.2 t (.ml ts')).map fun t' => env.set q.1 (some t')
  | _ => none := rfl
@[simp] theorem ev_pIx {mp : PMm} : pIx mp a env = (mp env).bind fun q => (a env).bind fun k => k.int?.bind fun k => (slotT env q.1).bind fun t => (T.at q.2 t).bind fun u => u.own?.bind fun ts => (ixN ts.length k).map fun j => (q.1, q.2 ++ [.ix j]) := rfl
@[simp] theorem ev_wipe0 : wipeE env [] = env := rfl
@[simp] theorem ev_wipe1 {v : Nat} {vs : List Nat} : wipeE env (v :: vs) = (wipeE env vs).set v none := rfl
end
section
variable {i j : Int} {d e : D} {ds es : List D} {ts us : List T} {x y : Bool} {t u : T}
@[simp] theorem ev_pure : (T.p d).pure? = some d := rfl
@[simp] theorem ev_int : (T.p (.int i)).int? = some i := rfl
@[simp] theorem ev_bool : (T.p (.bool x)).bool? = some x := rfl
@[simp] theorem ev_pures0 : pures [] = some [] := rfl
@[simp] theorem ev_pures1 : pures (t :: ts) = t.pure?.bind fun d => (pures ts).map fun ds => d :: ds := rfl
@[simp] theorem ev_snap : (T.p d).snap = some d := by simp [T.snap]
@[simp] theorem ev_add : addT (.p (.int i)) (.p (.int j)) = some (.p (.int (i + j))) := rfl
@[simp] theorem ev_sub : subT (.p (.int i)) (.p (.int j)) = some (.p (.int (i - j))) := rfl
@[simp] theorem ev_mul : mulT (.p (.int i)) (.p (.int j)) = if mulOk i j then some (.p (.int (i * j))) else none := rfl
@[simp] theorem ev_mod : modT (.p (.int i)) (.p (.int j)) = if j = 0 then none else some (.p (.int (i.fmod j))) := by
  unfold modT iOp
  simp only [ev_int, Option.bind_some]
  split <;> rfl
@[simp] theorem ev_fdiv : fdivT (.p (.int i)) (.p (.int j)) = if divOk j then some (.p (.int (i.fdiv j))) else none := by
  unfold fdivT iOp
  simp only [ev_int, Option.bind_some]
  split <;> rfl
@[simp] theorem ev_pow : powT (.p (.int i)) (.p (.int j)) = if 0 ≤ j ∧ j ≤ 1000000 ∧ i.natAbs < 2 ^ 64 then some (.p (.int (i ^ j.toNat))) else none := by
  unfold powT iOp
  simp only [ev_int, Option.bind_some]
  split <;> rfl
@[simp] theorem ev_lt : ltT (.p (.int i)) (.p (.int j)) = some (.p (.bool (decide (i < j)))) := rfl
@[simp] theorem ev_le : leT (.p (.int i)) (.p (.int j)) = some (.p (.bool (decide (i ≤ j)))) := rfl
@[simp] theorem ev_gt : gtT (.p (.int i)) (.p (.int j)) = some (.p (.bool (decide (j < i)))) := rfl
@[simp] theorem ev_ge : geT (.p (.int i)) (.p (.int j)) = some (.p (.bool (decide (j ≤ i)))) := rfl
theorem shaped_int : SeqAt.shaped (.int i) = true := by simp [SeqAt.shaped, PyData.canLay0, PyData.depth]
theorem shaped_bool : SeqAt.shaped (.bool x) = true := by simp [SeqAt.shaped, PyData.canLay0, PyData.depth]
@[simp] theorem ev_eqi : eqT (.p (.int i)) (.p (.int j)) = some (.p (.bool (decide (i = j)))) := by
  simp [eqT, shaped_int, PyData.eqv, Bool.beq_eq_decide_eq]
@[simp] theorem ev_nei : neT (.p (.int i)) (.p (.int j)) = some (.p (.bool (!decide (i = j)))) := by
  simp [neT, shaped_int, PyData.eqv, Bool.beq_eq_decide_eq]
@[simp] theorem ev_eqb : eqT (.p (.bool x)) (.p (.bool y)) = some (.p (.bool (x == y))) := by
  simp [eqT, shaped_bool, PyData.eqv]
@[simp] theorem ev_neb : neT (.p (.bool x)) (.p (.bool y)) = some (.p (.bool (!(x == y)))) := by
  simp [neT, shaped_bool, PyData.eqv]
@[simp] theorem ev_intT_i : intT [.p (.int i)] = some (.p (.int i)) := rfl
@[simp] theorem ev_intT_b : intT [.p (.bool x)] = some (.p (.int (if x then 1 else 0))) := rfl
@[simp] theorem ev_lenl : lenT [.p (.list ds)] = some (.p (.int ds.length)) := by simp [lenT, T.kids]
@[simp] theorem ev_lent : lenT [.p (.tuple ds)] = some (.p (.int ds.length)) := by simp [lenT, T.kids]
@[simp] theorem ev_lenm : lenT [.ml ts] = some (.p (.int ts.length)) := by simp [lenT, T.kids]
@[simp] theorem ev_lens {ns : List Int} : lenT [.sc ns] = some (.p (.int ns.length)) := by simp [lenT, T.kids]
@[simp] theorem ev_ixl : idxT (.p (.list ds)) (.p (.int i)) = (atI ds i).map T.p := by
  simp only [idxT, ev_int, Option.bind_some, T.kids, atI, List.length_map]
  cases ixN ds.length i with
  | none => rfl
  | some j => simp
@[simp] theorem ev_ixt : idxT (.p (.tuple ds)) (.p (.int i)) = (atI ds i).map T.p := by
  simp only [idxT, ev_int, Option.bind_some, T.kids, atI, List.length_map]
  cases ixN ds.length i with
  | none => rfl
  | some j => simp
@[simp] theorem ev_ixm : idxT (.ml ts) (.p (.int i)) = atI ts i := by simp [idxT, T.kids]
@[simp] theorem ev_ixp : idxT (.tp ts) (.p (.int i)) = atI ts i := by simp [idxT, T.kids]
@[simp] theorem ev_ixs {ns : List Int} : idxT (.sc ns) (.p (.int i)) = (atI ns i).map fun n => T.p (.int n) := by
  simp only [idxT, ev_int, Option.bind_some, T.kids, atI, List.length_map]
  cases ixN ns.length i with
  | none => rfl
  | some j => simp; rfl
@[simp] theorem ev_anyl : (T.p (.list ds)).any? = some ds := rfl
@[simp] theorem ev_anyt : (T.p (.tuple ds)).any? = some ds := rfl
@[simp] theorem ev_fzl : (T.p (.list ds)).fz? = some ds := rfl
@[simp] theorem ev_fzt : (T.p (.tuple ds)).fz? = some ds := rfl
@[simp] theorem ev_fzs {ns : List Int} : (T.sc ns).fz? = some (ns.map PyData.int) := rfl
@[simp] theorem ev_fzll : (T.p (.list ds)).fzl? = some ds := rfl
@[simp] theorem ev_seql : (T.p (.list ds)).seq? = some ds := rfl
@[simp] theorem ev_seqs {ns : List Int} : (T.sc ns).seq? = some (ns.map PyData.int) := rfl
@[simp] theorem ev_lstl : (T.p (.list ds)).lst? = some ds := rfl
@[simp] theorem ev_addl : addT (.p (.list ds)) (.p (.list es)) = if ds.length + es.length ≤ LIM then some (.p (.list (ds ++ es))) else none := rfl
@[simp] theorem ev_addt : addT (.p (.tuple ds)) (.p (.tuple es)) = if ds.length + es.length ≤ LIM then some (.p (.tuple (ds ++ es))) else none := rfl
@[simp] theorem ev_listl : listT [.p (.list ds)] = some (.p (.list ds)) := rfl
@[simp] theorem ev_listt : listT [.p (.tuple ds)] = some (.p (.list ds)) := rfl
@[simp] theorem ev_tuplel : tupleT [.p (.list ds)] = some (.p (.tuple ds)) := rfl
@[simp] theorem ev_slicel {lo hi : Option Int} : sliceT (.p (.list ds)) lo hi = some (.p (.list (cutL ds lo hi))) := rfl
@[simp] theorem ev_slicet {lo hi : Option Int} : sliceT (.p (.tuple ds)) lo hi = some (.p (.tuple (cutL ds lo hi))) := rfl
@[simp] theorem ev_slices {ns : List Int} {lo hi : Option Int} : sliceT (.sc ns) lo hi = some (.p (.list (cutL (ns.map PyData.int) lo hi))) := rfl
@[simp] theorem ev_min2 : minT [.p (.int i), .p (.int j)] = some (.p (.int (min i j))) := rfl
@[simp] theorem ev_max2 : maxT [.p (.int i), .p (.int j)] = some (.p (.int (max i j))) := rfl
@[simp] theorem ev_at0 : T.at [] t = some t.strip := rfl
@[simp] theorem ev_put0 : T.put [] t u = some (t.wrap u) := rfl
@[simp] theorem ev_own : (T.ml ts).own? = some ts := rfl
theorem snaps_ints (xs : List Int) : snaps (xs.map fun x => T.p (.int x)) = some (xs.map PyData.int) := by
  have := snaps_p (xs.map PyData.int)
  rw [List.map_map] at this
  exact this
end
theorem mulOk_l {i j : Int} (h : i.natAbs < 2 ^ 64) : mulOk i j = true := by simp [mulOk, h]
theorem mulOk_r {i j : Int} (h : j.natAbs < 2 ^ 64) : mulOk i j = true := by simp [mulOk, h]
theorem log2_small {n : Nat} (h : n < 2 ^ 64) : n.log2 < 9000 := by
  by_cases h0 : n = 0
  · subst h0; decide
  · exact (Nat.log2_lt h0).mpr (Nat.lt_of_lt_of_le h (Nat.pow_le_pow_right (by decide) (by decide)))
theorem divOk_small {j : Int} (h0 : j ≠ 0) (h : j.natAbs < 2 ^ 64) : divOk j = true := by
  simp [divOk, h0, log2_small h]
theorem atI_lt {α : Type} {xs : List α} {i : Int} (h0 : 0 ≤ i) (h1 : i < xs.length) : atI xs i = some (xs[i.toNat]'(by omega)) := by
  unfold atI ixN
  rw [if_pos h0, if_pos h1]
  simp
end M
namespace M
open PySem PySem.Spec PyProof.Rows L2

section
variable {X : Cx}
def mOrL (ma mb : EM) : EM := fun env => (ma env).bind fun t => t.any?.bind fun ds => if ds.isEmpty = true then mb env else some t
@[simp] theorem ev_mOrL {ma mb : EM} {env : En} : mOrL ma mb env = (ma env).bind fun t => t.any?.bind fun ds => if ds.isEmpty = true then mb env else some t := rfl
end
end M
namespace M
open PySem PySem.Spec PyProof.Rows L2

theorem u1 {n : Nat} (h : n + 64 < cLine) : n + 1 < cLine := by omega
def keyOf? : D → Option Key
  | .int i => some (.inl i)
  | .str x => some (.inr x)
  | _ => none
theorem keyOf_keyD (k : Key) : keyOf? (keyD k) = some k := by cases k <;> rfl
def keysD : List (D × D) → Option (List (Key × D))
  | [] => some []
  | (k, d) :: r => (keyOf? k).bind fun k => (keysD r).map fun ds => (k, d) :: ds
def T.dct? : T → Option (List (Key × D))
  | .md ds => some ds
  | .mk _ _ _ ds => some ds
  | .p (.dict ps) => keysD ps
  | _ => none
def valD (ds : List (Key × D)) (k : Key) : Option D := (ds.find? fun kv => decide (kv.1 = k)).map (·.2)
def putD (ds : List (Key × D)) (k : Key) (d : D) : List (Key × D) :=
  if (ds.any fun kv => decide (kv.1 = k)) = true then ds.map (fun kv => if kv.1 = k then (kv.1, d) else kv) else ds ++ [(k, d)]
section
variable {K : PySem.W.Frag} {G H : Hp}
theorem Rp.key {v : V} {d : D} {k : Key} (r : Rp K G v d) (e : keyOf? d = some k) : v = kV k := by
  cases r <;> first | (cases e; rfl) | (simp [keyOf?] at e)
theorem Rp.ofKey (k : Key) : Rp K G (kV k) (keyD k) := by
  cases k with
  | inl i => exact .int i
  | inr x => exact .str x
theorem Rpk.kr : ∀ {kvs : List (Key × V)} {ps : List (D × D)} {ds : List (Key × D)}, Rpk K G kvs ps → keysD ps = some ds → KR K G kvs ds
  | _, _, _, .nil, e => by cases e; exact .nil
  | _, _, _, .cons h r, e => by
    simp only [keysD, keyOf_keyD, Option.bind_some, Option.map_eq_some_iff] at e
    obtain ⟨ds, e1, rfl⟩ := e
    exact .cons h (r.kr e1)
theorem TR.dct {t : T} {v : V} {F : List Addr} {ds : List (Key × D)} (r : TR K G H t v F) (s : Same G H) (e : t.dct? = some ds) : ∃ a kvs, v = .ref a ∧ Rd H a (.dK kvs) ∧ KR K G kvs ds := by
  cases r with
  | p h =>
    cases h with
    | dct h r => exact ⟨_, _, rfl, .inl (s _ _ h), r.kr e⟩
    | _ => simp [T.dct?] at e
  | md h r => cases e; exact ⟨_, _, rfl, .inl h, r⟩
  | mk h r => cases e; exact ⟨_, _, rfl, .inr ⟨_, h⟩, r⟩
  | _ => simp [T.dct?] at e
theorem KR.val {k : Key} : ∀ {kvs : List (Key × V)} {ds : List (Key × D)}, KR K G kvs ds → (∀ d, valD ds k = some d → ∃ v, valV kvs k = some v ∧ Rp K G v d) ∧ (valD ds k).isSome = (valV kvs k).isSome
  | _, _, .nil => ⟨fun d e => by simp [valD] at e, rfl⟩
  | _, _, .cons (k := k0) (v := v0) (d := d0) h r => by
    obtain ⟨i1, i2⟩ := KR.val (k := k) r
    by_cases z : k0 = k
    · refine ⟨fun d e => ?_, ?_⟩
      · simp [valD, z] at e
        cases e
        exact ⟨v0, valV_pos z, h⟩
      · rw [valV_pos z]; simp [valD, z]
    · rw [valV_neg z]
      have q : ∀ r : List (Key × D), valD ((k0, d0) :: r) k = valD r k := fun r => by simp [valD, z]
      rw [q]
      exact ⟨i1, i2⟩
theorem KR.any {k : Key} : ∀ {kvs : List (Key × V)} {ds : List (Key × D)}, KR K G kvs ds → (kvs.any fun kv => decide (kv.1 = k)) = (ds.any fun kv => decide (kv.1 = k))
  | _, _, .nil => rfl
  | _, _, .cons _ r => by simp only [List.any_cons]; rw [KR.any r]
theorem KR.repl {k : Key} {v : V} {d : D} (q : Rp K G v d) : ∀ {kvs : List (Key × V)} {ds : List (Key × D)}, KR K G kvs ds → KR K G (kvs.map fun kv => if kv.1 = k then (kv.1, v) else kv) (ds.map fun kv => if kv.1 = k then (kv.1, d) else kv)
  | _, _, .nil => .nil
  | _, _, .cons (k := k0) h r => by
    simp only [List.map_cons]
    by_cases z : k0 = k
    · rw [if_pos z, if_pos z]; exact .cons q (KR.repl q r)
    · rw [if_neg z, if_neg z]; exact .cons h (KR.repl q r)
theorem KR.snoc {k : Key} {v : V} {d : D} (q : Rp K G v d) : ∀ {kvs : List (Key × V)} {ds : List (Key × D)}, KR K G kvs ds → KR K G (kvs ++ [(k, v)]) (ds ++ [(k, d)])
  | _, _, .nil => .cons q .nil
  | _, _, .cons h r => .cons h (KR.snoc q r)
theorem KR.put {k : Key} {v : V} {d : D} (q : Rp K G v d) {kvs : List (Key × V)} {ds : List (Key × D)} (r : KR K G kvs ds) : KR K G (putK kvs k v) (putD ds k d) := by
  unfold putK putD
  rw [r.any]
  split
  · exact r.repl q
  · exact r.snoc q
theorem KR.get : ∀ {kvs : List (Key × V)} {ds : List (Key × D)} {i : Nat} {k : Key} {v : V}, KR K G kvs ds → kvs[i]? = some (k, v) → ∃ d, ds[i]? = some (k, d)
  | _, _, _, _, _, .nil, e => by simp at e
  | _, _, 0, _, _, .cons h r, e => by simp at e; obtain ⟨rfl, rfl⟩ := e; exact ⟨_, rfl⟩
  | _, _, i + 1, k, v, .cons h r, e => by
    obtain ⟨d, h1⟩ := KR.get (i := i) r (by simpa using e)
    exact ⟨d, by simpa using h1⟩
end

def mDNew : EM := fun _ => some (.md [])
def mDOne (a b : EM) : EM := fun env => (a env).bind fun x => x.pure?.bind fun c => (keyOf? c).bind fun k => (b env).bind fun y => y.pure?.map fun d => .md [(k, d)]
def dGetT : T → T → Option T := fun t u => t.dct?.bind fun ds => u.pure?.bind fun c => (keyOf? c).bind fun k => (valD ds k).map T.p
def dNotInT : T → T → Option T := fun u t => u.pure?.bind fun c => (keyOf? c).bind fun k => t.dct?.map fun ds => .p (.bool (!(valD ds k).isSome))
section
variable {X : Cx} {pos : Pos} {a b : Expr} {ma mb : EM}
theorem pf_dnew : PF X (.Dict [] [] pos) mDNew := by
  refine PE_imp pe_dnewK fun σ H Q h => ?_
  obtain ⟨G, env, F, rel, t, e, q⟩ := h
  cases e
  intro p hp
  have x := Ext.fresh (o := .dK []) rel.sm hp
  refine q _ _ _ [p] x (.md upd_same .nil) (by simp) fun c hc => ?_
  have : c = p := by simpa using hc
  subst this
  exact ⟨rel.sm.free hp, hp⟩
theorem mergeK_one (k : Key) (v : V) : mergeK [] [(k, v)] = [(k, v)] := by simp [mergeK, putK]
theorem pf_done (ha : PM X a ma) (hb : PM X b mb) : PF X (.Dict [some a] [b] pos) (mDOne ma mb) := by
  refine PE_imp (pe_disp (pps_cons ha hb pps_nil) (by rfl) (by rfl) (fun z => by cases z) (by show 1 ≤ 15; decide)) fun σ H Q h => ?_
  obtain ⟨G, env, F, rel, t, e, q⟩ := h
  simp only [mDOne, Option.bind_eq_some_iff, Option.map_eq_some_iff] at e
  obtain ⟨x, e1, c, e2, k, e3, y, e4, d, e5, rfl⟩ := e
  intro p hp
  have x0 := Ext.fresh (o := .dK []) rel.sm hp
  refine ⟨G, env, F, rel.ext x0, x, e1, fun v H1 G1 F1 x1 r1 => ?_⟩
  refine ⟨G1, env, F, (rel.ext x0).ext x1, y, e4, fun w H2 G2 F2 x2 r2 => ?_⟩
  have hk : v = kV k := (r1.of_pure? e2).key e3
  have hp2 : H2 p = some (.dK []) := x2.hh _ _ (x1.hh _ _ upd_same)
  have x02 := (x0.trans x1).trans x2
  have hg : G2 p = none := (x1.trans x2).not (rel.sm.free hp) (by rw [upd_same]; simp)
  refine ⟨hp2, [(k, w)], by rw [hk]; rfl, by show 1 ≤ 15; decide, ?_⟩
  rw [mergeK_one]
  have x3 : Ext G H G2 (upd H2 p (.dK [(k, w)])) := ⟨x02.gg, fun c o z => ?_, fun c o z => ?_, x02.fr⟩
  · refine q _ _ _ [p] x3 (.md upd_same (.cons (r2.of_pure? e5) .nil)) (by simp) fun c hc => ?_
    have : c = p := by simpa using hc
    subst this
    exact ⟨hg, hp⟩
  · have : c ≠ p := fun y => by subst y; rw [hp] at z; cases z
    rw [upd_ne this]; exact x02.hh _ _ z
  · have : c ≠ p := fun y => by subst y; rw [hg] at z; cases z
    rw [upd_ne this]; exact x02.gh _ _ z
theorem pm_dget (hu : X.A.units + 1 < cLine) (ha : PM X a ma) (hb : PM X b mb) (hs : NoSl b) : PM X (.Subscript a b pos) (mOp dGetT ma mb) := by
  refine PE_imp (pe_dget hu ha hb hs) fun σ H Q h => ?_
  obtain ⟨G, env, F, rel, t, e, q⟩ := h
  simp only [mOp, dGetT, Option.bind_eq_some_iff, Option.map_eq_some_iff] at e
  obtain ⟨x, e1, y, e2, ds, e3, c, e4, k, e5, d, e6, rfl⟩ := e
  refine ⟨G, env, F, rel, x, e1, fun v H1 G1 F1 x1 r1 => ?_⟩
  refine ⟨G1, env, F, rel.ext x1, y, e2, fun w H2 G2 F2 x2 r2 => ?_⟩
  obtain ⟨p, kvs, rfl, hd, kr⟩ := (r1.keep x2.gg (Keep.of x2.hh)).dct x2.gh e3
  obtain ⟨u, h1, h2⟩ := kr.val.1 d e6
  exact ⟨p, u, rfl, .inl ⟨kvs, k, hd, (r2.of_pure? e4).key e5, h1.symm⟩, q u H2 G2 [] (x1.trans x2) (.p h2)⟩
theorem ptm_dnotin (hu : X.A.units + 1 < cLine) (ha : PM X a ma) (hb : PM X b mb) (h1 : behindInMarks .NotIn b = false := by rfl) : PTM X (.Compare a [.NotIn] [b] pos) (bOp dNotInT ma mb) := by
  refine PT_imp (pt_cmp (pc_dnotin hu ha hb) h1) fun σ H Q h => ?_
  obtain ⟨G, env, F, rel, t, e, q⟩ := h
  simp only [bOp, bVal, mOp, dNotInT, Option.bind_eq_some_iff, Option.map_eq_some_iff] at e
  obtain ⟨z, ⟨x, e1, y, e2, c, e4, k, e5, ds, e3, rfl⟩, e6⟩ := e
  cases e6
  refine ⟨G, env, F, rel, x, e1, fun v H1 G1 F1 x1 r1 => ?_⟩
  refine ⟨G1, env, F, rel.ext x1, y, e2, fun w H2 G2 F2 x2 r2 => ?_⟩
  obtain ⟨p, kvs, rfl, hd, kr⟩ := r2.dct x2.gh e3
  refine ⟨p, _, rfl, .inl ⟨kvs, k, hd, (r1.of_pure? e4).key e5, rfl⟩, _, rfl, ?_⟩
  rw [← kr.val.2]
  exact q H2 G2 (x1.trans x2)
end
theorem md_at {K : PySem.W.Frag} {G0 R G H : Hp} {env : En} {σ : L2.St} {F : List Addr} {i : Nat} {t : T} {v0 : V} (rel : Rel K G H env σ F) (hR : ∀ a ∈ F, R a = none) (x0 : Ext G0 R G H)
    (e1 : env[i]? = some (some t)) (hs : σ[i]? = some (some v0)) (ht : (∃ ds, t.strip = .md ds) ∨ ∃ a od kvs ds, t.strip = .mk a od kvs ds) :
    ∃ a, v0 = .ref a ∧ TR K G H t.strip (.ref a) [a] ∧ ∀ ho t', TR K G (upd H a ho) t' (.ref a) [a] → SR K G0 R (env.set i (some (t.wrap t'))) σ (upd H a ho) := by
  obtain ⟨v0', v, F1, Fo, h1, h2, h3, h4, h5, h6, h7⟩ := rel.mut e1 (show T.at [] t = some t.strip from rfl)
  have z0 : v0' = v0 := by
    have := h1.symm.trans hs
    cases this
    rfl
  subst z0
  cases h2
  have hF : ∃ a, v0' = .ref a ∧ F1 = [a] := by
    rcases ht with ⟨ds, hz⟩ | ⟨a, od, kvs, ds, hz⟩
    · rw [hz] at h3
      cases h3 with
      | md h r => exact ⟨_, rfl, rfl⟩
    · rw [hz] at h3
      cases h3 with
      | mk h r => exact ⟨_, rfl, rfl⟩
  obtain ⟨a, rfl, rfl⟩ := hF
  refine ⟨a, rfl, h3, fun ho t' r' => ?_⟩
  have haF : a ∈ F := h4 a List.mem_cons_self
  have hGa := (rel.fr a haF).1
  have sm : Same G (upd H a ho) := fun b o z => by
    have : b ≠ a := fun y => by subst y; rw [hGa] at z; cases z
    rw [upd_ne this]; exact rel.sm _ _ z
  have hna : a ∉ Fo := fun z => (h6 a z).2 List.mem_cons_self
  obtain ⟨t'', F', p1, p2, p3⟩ := h7 G (upd H a ho) t' [a] (Same.refl G) sm (fun b hb o z => by
    have : b ≠ a := fun y => by subst y; exact hna hb
    rw [upd_ne this]; exact z) r' (by simp) (fun b hb => by
      have : b = a := by simpa using hb
      subst this; exact ⟨hGa, hna⟩) (fun b hb => (rel.fr b (h6 b hb).1).1)
  cases p1
  refine ⟨G, F', p2, fun b hb => ?_, x0.gg, fun b o z => ?_, sm, x0.fr⟩
  · rcases p3 b hb with z | z
    · have : b = a := by simpa using z
      subst this; exact hR _ haF
    · exact hR _ (h6 b z).1
  · have : b ≠ a := fun y => by subst y; rw [hR _ haF] at z; cases z
    rw [upd_ne this]; exact x0.hh _ _ z
def sDPut (i : Nat) (mk mv : EM) : SM := fun env => (mv env).bind fun y => y.pure?.bind fun d => (mk env).bind fun u => u.pure?.bind fun c => (keyOf? c).bind fun k => (slotT env i).bind fun t => match t.strip with
  | .md ds => if ds.length < LIM then some (.nx (env.set i (some (t.wrap (.md (putD ds k d)))))) else none
  | _ => none
section
variable {X : Cx} {pos pos' npos : Pos} {e ie : Expr} {mk mv : EM}
theorem psm_dput (i : Nat) {x : Str} (hu : X.A.units + 1 < cLine) (hi : PM X ie mk) (hv : PM X e mv) (hN : X.N[i]? = some x := by rfl) (hvis : Vis X.env.scope x := by first | exact Or.inl rfl | exact Or.inr (Or.inl rfl) | exact Or.inr (Or.inr rfl)) (hd : (x == ("__debug__" : Str)) = false := by decide)
    (hcd : (x == ("__classdict__" : Str)) = false := by decide) (hs : swapsWith e (some (.Subscript (.Name x npos) ie pos')) pos.line X.env = pure false := by rfl) : PSM X (.Assign [.Subscript (.Name x npos) ie pos'] e pos) (sDPut i mk mv) := by
  refine PS_imp (ps_dput hu (pe_var hN hvis hd hcd) hi hv hs) fun D σ H h => ?_
  obtain ⟨G0, R, env, ⟨G, F, rel, hR, x0⟩, o, e, g⟩ := h
  simp only [sDPut, Option.bind_eq_some_iff] at e
  obtain ⟨y, e1, d, e2, u, e3, c, e4, k, e5, t, hsl, e6⟩ := e
  split at e6
  · rename_i ds hst
    split at e6
    · rename_i hz
      cases e6
      refine ⟨G, env, F, rel, y, e1, fun v H1 G1 F1 x1 r1 => ?_⟩
      obtain ⟨v0, _, _, _, h1, _⟩ := rel.mut (slotT_eq hsl) (show T.at [] t = some t.strip from rfl)
      refine ⟨v0, h1, G1, env, F, rel.ext x1, u, e3, fun w H2 G2 F2 x2 r2 => ?_⟩
      obtain ⟨a, rfl, tr, up⟩ := md_at ((rel.ext x1).ext x2) hR ((x0.trans x1).trans x2) (slotT_eq hsl) h1 (.inl ⟨ds, hst⟩)
      rw [hst] at tr
      cases tr with
      | md ha kr =>
        refine ⟨a, _, rfl, .inl ⟨_, k, ha, (r2.of_pure? e4).key e5, by rw [kr.length]; exact Nat.lt_of_lt_of_le hz LIM_line, rfl⟩, ?_⟩
        exact g σ _ (up _ _ (.md upd_same (kr.put ((r1.of_pure? e2).mono x2.gg))))
    · cases e6
  · cases e6
end
/-- the turns of a for over a dict: the slot holds the locked dict at each -/
def FD (i : Nat) (t : T) (g : D → En → Option En) (mb : SM) : List D → En → En → Prop
  | [], env, env' => env' = env ∧ env[i]? = some (some t)
  | d :: r, env, env' => env[i]? = some (some t) ∧ ∃ e1, g d env = some e1 ∧ ∃ e2, (mb e1 = some (.nx e2) ∨ mb e1 = some (.ct e2)) ∧ FD i t g mb r e2 env'
theorem FD.at {i : Nat} {t : T} {g : D → En → Option En} {mb : SM} : ∀ {ds : List D} {env env' : En}, FD i t g mb ds env env' → env[i]? = some (some t)
  | [], _, _, h => h.2
  | _ :: _, _, _, h => h.1
theorem FD.det {i : Nat} {t : T} {g : D → En → Option En} {mb : SM} : ∀ {ds : List D} {env e1 e2 : En}, FD i t g mb ds env e1 → FD i t g mb ds env e2 → e1 = e2
  | [], _, _, _, h, h' => by rw [h.1, h'.1]
  | _ :: _, _, _, _, ⟨_, a, ha, b, hb, h⟩, ⟨_, a', ha', b', hb', h'⟩ => by
    rw [ha] at ha'
    cases ha'
    have : b = b' := by
      rcases hb with z | z <;> rcases hb' with z' | z' <;> (rw [z] at z'; cases z') <;> rfl
    subst this
    exact FD.det h h'
def dkeys (ds : List (Key × D)) : List D := ds.map fun p => keyD p.1
instance : Inhabited Obj := ⟨{ cls := .none, dict := none, data := .plain, slots := #[] }⟩
section
variable {X : Cx} {pos npos : Pos} {tg : Expr} {body : List Stmt} {js : List Nat} {g : D → En → Option En} {mb : SM}
end
end M
namespace M
open PySem PySem.Spec PyProof.Rows L2 HT

section
variable {P : Program} {w : World} {A : Around} {E : Value → Shared → Prop} {s : Shared}
end

section
variable {X : Cx}
end
def mRevT (m : EM) : EM := fun env => (m env).bind fun t => match t.seq? with
  | some ds => some (.p (.list ds.reverse))
  | none => t.any?.map fun ds => .p (.tuple ds.reverse)
@[simp] theorem ev_mRevT {m : EM} {env : En} : mRevT m env = (m env).bind fun t => match t.seq? with
  | some ds => some (.p (.list ds.reverse))
  | none => t.any?.map fun ds => .p (.tuple ds.reverse) := rfl
end M
namespace M
open PySem PySem.Spec PyProof.Rows L2

def clr (env : En) : List Nat → En
  | [] => env
  | j :: js => clr (env.set j none) js
def putAll (env : En) : List Nat → List T → En
  | j :: js, u :: us => putAll (env.set j (some u)) js us
  | _, _ => env
def picks (env : En) : List Nat → Option (List T)
  | [] => some []
  | j :: js => (slotT env j).bind fun t => (picks env js).map fun ts => t :: ts
inductive SlotsV (σ : L2.St) : List Nat → List V → Prop
  | nil : SlotsV σ [] []
  | cons {j : Nat} {v : V} {js : List Nat} {vs : List V} : σ[j]? = some (some v) → SlotsV σ js vs → SlotsV σ (j :: js) (v :: vs)
section
variable {K : PySem.W.Frag} {G H : Hp}
theorem picks_set {env : En} {j : Nat} {o : Option T} : ∀ {js : List Nat}, j ∉ js → picks (env.set j o) js = picks env js
  | [], _ => rfl
  | k :: js, h => by
    have h1 : j ≠ k := fun z => h (z ▸ List.mem_cons_self)
    simp only [picks, slotT, List.getElem?_set_ne h1, picks_set (js := js) fun z => h (List.mem_cons_of_mem _ z)]
theorem ES.grab : ∀ {js : List Nat} {env : En} {σ : L2.St} {F : List Addr} {ts : List T}, ES K G H env σ F → F.Nodup → js.Nodup → picks env js = some ts →
    ∃ vs Fs Fo, TRs K G H ts vs Fs ∧ SlotsV σ js vs ∧ ES K G H (clr env js) σ Fo ∧ (Fs ++ Fo).Nodup ∧ ∀ a ∈ Fs ++ Fo, a ∈ F
  | [], env, σ, F, ts, es, nd, _, e => by
    simp only [picks, Option.some.injEq] at e; subst e
    exact ⟨[], [], F, .nil, .nil, es, nd, fun _ h => h⟩
  | j :: js, env, σ, F, ts, es, nd, hj, e => by
    simp only [picks, Option.bind_eq_some_iff, Option.map_eq_some_iff] at e
    obtain ⟨t, e1, ts', e2, rfl⟩ := e
    obtain ⟨v, F1, Fa, Fb, h1, h2, rfl, _, _, h6⟩ := es.split (slotT_eq e1)
    have es1 := h6 G H (Same.refl G) (Keep.of (Same.refl H))
    have n0 := List.nodup_append.mp nd
    have n1 := List.nodup_append.mp n0.2.1
    have nd1 : (Fa ++ Fb).Nodup := List.nodup_append.mpr ⟨n0.1, n1.2.1, fun a ha b hb => n0.2.2 a ha b (List.mem_append_right _ hb)⟩
    have hj' := List.nodup_cons.mp hj
    obtain ⟨vs, Fs, Fo, r1, r2, r3, r4, r5⟩ := ES.grab (js := js) (ts := ts') es1 nd1 hj'.2 (by rw [picks_set hj'.1]; exact e2)
    refine ⟨v :: vs, F1 ++ Fs, Fo, .cons h2 r1, .cons h1 r2, r3, ?_, fun a ha => ?_⟩
    · rw [List.append_assoc]
      refine List.nodup_append.mpr ⟨n1.1, r4, fun a ha b hb e => ?_⟩
      subst e
      rcases List.mem_append.mp (r5 a hb) with z | z
      · exact n0.2.2 a z a (List.mem_append_left _ ha) rfl
      · exact n1.2.2 a ha a z rfl
    · rw [List.append_assoc] at ha
      rcases List.mem_append.mp ha with z | z
      · simp [z]
      · rcases List.mem_append.mp (r5 a z) with z | z <;> simp [z]
theorem set_get {α : Type} {l : List α} {i : Nat} {a : α} (h : l[i]? = some a) : l.set i a = l := by
  apply List.ext_getElem?
  intro j
  by_cases e : i = j
  · subst e
    obtain ⟨hl, _⟩ := List.getElem?_eq_some_iff.mp h
    rw [List.getElem?_set_self hl, h]
  · rw [List.getElem?_set_ne e]
theorem ES.fillAll : ∀ {js : List Nat} {us : List T} {vs : List V} {env : En} {σ : L2.St} {Fs Fo : List Addr}, ES K G H env σ Fo → SlotsV σ js vs → TRs K G H us vs Fs → (Fs ++ Fo).Nodup →
    ∃ F', ES K G H (putAll env js us) σ F' ∧ F'.Nodup ∧ ∀ a ∈ F', a ∈ Fs ++ Fo
  | _, _, _, env, σ, _, Fo, es, .nil, .nil, nd => ⟨Fo, es, nd, fun _ h => h⟩
  | _, _, _, env, σ, _, Fo, es, .cons (j := j) h1 h2, .cons (F := F1) (F' := Fs) r1 r2, nd => by
    rw [List.append_assoc] at nd
    have n0 := List.nodup_append.mp nd
    have n1 := List.nodup_append.mp n0.2.1
    obtain ⟨F', p1, p2, p3⟩ := ES.put r1 j es
    rw [set_get h1] at p1
    have nf : F'.Nodup := p3 n1.2.1 n0.1 fun a ha z => n0.2.2 a ha a (List.mem_append_right _ z) rfl
    have nd' : (Fs ++ F').Nodup := List.nodup_append.mpr ⟨n1.1, nf, fun a ha b hb e => by
      subst e
      rcases p2 a hb with z | z
      · exact n0.2.2 a z a (List.mem_append_left _ ha) rfl
      · exact n1.2.2 a ha a z rfl⟩
    obtain ⟨F'', q1, q2, q3⟩ := ES.fillAll p1 h2 r2 nd'
    refine ⟨F'', q1, q2, fun a ha => ?_⟩
    rcases List.mem_append.mp (q3 a ha) with z | z
    · simp [z]
    · rcases p2 a z with z | z <;> simp [z]
end

inductive AI where
  | ex (m : EM)
  | sl (i : Nat)
def T.isOwn : T → Bool
  | .ml _ => true
  | .tp _ => true
  | .md _ => true
  | .ob _ _ => true
  | _ => false
def AI.ev (env : En) : AI → Option (T × Bool)
  | .ex m => (m env).bind fun t => if t.frozen then some (t, false) else none
  | .sl i => (slotT env i).bind fun t => if t.strip.isOwn then some (t.strip, true) else none
def evs (env : En) : List AI → Option (List (T × Bool))
  | [] => some []
  | a :: as => (a.ev env).bind fun x => (evs env as).map fun xs => x :: xs
def slotsOf : List AI → List Nat
  | [] => []
  | .ex _ :: as => slotsOf as
  | .sl i :: as => i :: slotsOf as
def mixT : List (T × Bool) → List Addr → List T
  | (t, false) :: r, al => t :: mixT r al
  | (t, true) :: r, a :: al => .rf a t :: mixT r al
  | _, _ => []
def wraps : List T → List T → List T
  | t :: ts, u :: us => t.wrap u :: wraps ts us
  | _, _ => []
def rfs (al : List Addr) (us : List T) : List T := List.zipWith T.rf al us
/-- the call tells d, and us of what it was handed, wherever that lies -/
def IOres (fn : List T → Option T) (xs : List (T × Bool)) (n : Nat) (d : D) (us : List T) : Prop := us.length = n ∧ ∀ al : List Addr, al.length = n → fn (mixT xs al) = some (.io (.p d) (rfs al us))
theorem rfs_inj : ∀ {al : List Addr} {us ws : List T}, us.length = al.length → ws.length = al.length → rfs al us = rfs al ws → us = ws
  | [], [], [], _, _, _ => rfl
  | _ :: al, u :: us, w :: ws, h1, h2, e => by
    simp only [rfs, List.zipWith_cons_cons, List.cons.injEq, T.rf.injEq, true_and] at e
    rw [e.1, rfs_inj (al := al) (by simpa using h1) (by simpa using h2) e.2]
theorem IOres.uniq {fn : List T → Option T} {xs : List (T × Bool)} {n : Nat} {d d' : D} {us us' : List T} (h : IOres fn xs n d us) (h' : IOres fn xs n d' us') : d = d' ∧ us = us' := by
  have e1 := h.2 (List.replicate n (0 : Nat)) (by simp)
  have e2 := h'.2 (List.replicate n (0 : Nat)) (by simp)
  rw [e1] at e2
  simp only [Option.some.injEq, T.io.injEq, T.p.injEq] at e2
  exact ⟨e2.1, rfs_inj (by simp [h.1]) (by simp [h'.1]) e2.2⟩
def finE (env : En) (as : List AI) (tgt : Option Nat) (d : D) (us : List T) : Option En := (picks env (slotsOf as)).map fun ts =>
  let e := putAll (clr env (slotsOf as)) (slotsOf as) (wraps ts us)
  match tgt with
  | none => e
  | some i => e.set i (some (.p d))
open Classical in
noncomputable def sCallIO (tgt : Option Nat) (fn : List T → Option T) (as : List AI) : SM := fun env => (evs env as).bind fun xs =>
  if h : (slotsOf as).Nodup ∧ ∃ r : D × List T, IOres fn xs (slotsOf as).length r.1 r.2 then (finE env as tgt (choose h.2).1 (choose h.2).2).map .nx else none
theorem sCallIO_eq {tgt : Option Nat} {fn : List T → Option T} {as : List AI} {env e : En} {xs : List (T × Bool)} {d : D} {us : List T} (hx : evs env as = some xs) (hj : (slotsOf as).Nodup) (h : IOres fn xs (slotsOf as).length d us) (he : finE env as tgt d us = some e) : sCallIO tgt fn as env = some (.nx e) := by
  have hh : (slotsOf as).Nodup ∧ ∃ r : D × List T, IOres fn xs (slotsOf as).length r.1 r.2 := ⟨hj, (d, us), h⟩
  simp only [sCallIO, hx, Option.bind_some]
  rw [dif_pos hh]
  have := (Classical.choose_spec hh.2).uniq h
  rw [this.1, this.2, he]; rfl
theorem sCallIO_of {tgt : Option Nat} {fn : List T → Option T} {as : List AI} {env : En} {o : Out} (e : sCallIO tgt fn as env = some o) : ∃ xs d us e', evs env as = some xs ∧ (slotsOf as).Nodup ∧ IOres fn xs (slotsOf as).length d us ∧ finE env as tgt d us = some e' ∧ o = .nx e' := by
  simp only [sCallIO, Option.bind_eq_some_iff] at e
  obtain ⟨xs, e1, e2⟩ := e
  split at e2
  · rename_i h
    simp only [Option.map_eq_some_iff] at e2
    obtain ⟨e', e3, rfl⟩ := e2
    exact ⟨xs, _, _, e', e1, h.1, Classical.choose_spec h.2, e3, rfl⟩
  · cases e2

inductive ArgsAI (K : PySem.W.Frag) (G H : Hp) (σ : L2.St) : List AI → List (T × Bool) → List V → Prop
  | nil : ArgsAI K G H σ [] [] []
  | ex {m : EM} {t : T} {v : V} {as : List AI} {xs : List (T × Bool)} {vs : List V} : TR K G H t v [] → ArgsAI K G H σ as xs vs → ArgsAI K G H σ (.ex m :: as) ((t, false) :: xs) (v :: vs)
  | sl {i : Nat} {t : T} {v : V} {as : List AI} {xs : List (T × Bool)} {vs : List V} : σ[i]? = some (some v) → ArgsAI K G H σ as xs vs → ArgsAI K G H σ (.sl i :: as) ((t, true) :: xs) (v :: vs)
theorem ArgsAI.len {K : PySem.W.Frag} {G H : Hp} {σ : L2.St} : ∀ {as : List AI} {xs : List (T × Bool)} {vs : List V}, ArgsAI K G H σ as xs vs → vs.length = as.length
  | _, _, _, .nil => rfl
  | _, _, _, .ex _ r => by simp [r.len]
  | _, _, _, .sl _ r => by simp [r.len]
def tAI (K : PySem.W.Frag) (as : List AI) : TA := fun σ H Q => ∃ G env F, Rel K G H env σ F ∧ ∃ xs, evs env as = some xs ∧ ∀ vs H' G', Ext G H G' H' → ArgsAI K G' H' σ as xs vs → Q vs H'
abbrev PAI (X : Cx) (es : List Expr) (as : List AI) : Prop := PA X es (tAI X.K as)
theorem frozen_nil {K : PySem.W.Frag} {G H : Hp} {t : T} {v : V} {F : List Addr} (r : TR K G H t v F) (h : t.frozen = true) : TR K G H t v [] := by
  cases r with
  | p h' => exact .p h'
  | sc h' => exact .sc h'
  | fo hc h' r => exact .fo hc h' r
  | _ => simp [T.frozen] at h
section
variable {X : Cx} {e : Expr} {es : List Expr} {me : EM} {as : List AI}
theorem pai_nil : PAI X [] [] := PA_imp pa_nil fun σ H Q h => by
  obtain ⟨G, env, F, rel, xs, e1, q⟩ := h
  simp only [evs, Option.some.injEq] at e1; subst e1
  exact q [] H G (Ext.refl rel.sm) .nil
theorem pai_ex (ha : PM X e me) (hr : PAI X es as) (hs : starEach (e :: es) X.env = (false, eval e X.env) :: starEach es X.env := by rfl) : PAI X (e :: es) (.ex me :: as) :=
  PA_imp (pa_cons ha hr hs) fun σ H Q h => by
    obtain ⟨G, env, F, rel, xs, e1, q⟩ := h
    simp only [evs, AI.ev, Option.bind_eq_some_iff, Option.map_eq_some_iff] at e1
    obtain ⟨x, ⟨t, e2, e3⟩, xs', e4, rfl⟩ := e1
    split at e3
    · rename_i hf
      cases e3
      refine ⟨G, env, F, rel, t, e2, fun v H1 G1 F1 x1 r1 => ?_⟩
      refine ⟨G1, env, F, rel.ext x1, xs', e4, fun vs H2 G2 x2 r2 => ?_⟩
      exact q (v :: vs) H2 G2 (x1.trans x2) (.ex ((frozen_nil r1 hf).keep x2.gg (Keep.of x2.hh)) r2)
    · cases e3
theorem pai_sl {x : Str} {pos : Pos} (i : Nat) (hr : PAI X es as) (hN : X.N[i]? = some x := by rfl) (hv : Vis X.env.scope x := by first | exact Or.inl rfl | exact Or.inr (Or.inl rfl) | exact Or.inr (Or.inr rfl)) (hd : (x == ("__debug__" : Str)) = false := by decide)
    (hcd : (x == ("__classdict__" : Str)) = false := by decide) (hs : starEach (.Name x pos :: es) X.env = (false, eval (.Name x pos) X.env) :: starEach es X.env := by rfl) : PAI X (.Name x pos :: es) (.sl i :: as) :=
  PA_imp (pa_cons (pp_var i hN hv hd hcd) hr hs) fun σ H Q h => by
    obtain ⟨G, env, F, rel, xs, e1, q⟩ := h
    simp only [evs, AI.ev, Option.bind_eq_some_iff, Option.map_eq_some_iff] at e1
    obtain ⟨x, ⟨t, e2, e3⟩, xs', e4, rfl⟩ := e1
    split at e3
    · cases e3
      refine ⟨G, env, F, rel, i, [], by simp only [pVar, e2, Option.map_some], fun v v0 H1 G1 x1 hs hv => ?_⟩
      cases hv
      refine ⟨G1, env, F, rel.ext x1, xs', e4, fun vs H2 G2 x2 r2 => ?_⟩
      exact q (v :: vs) H2 G2 (x1.trans x2) (.sl hs r2)
    · cases e3
end

def hole (H : Hp) (F : List Addr) : Hp := fun a => if a ∈ F then none else H a
theorem hole_in {H : Hp} {F : List Addr} {a : Addr} (h : a ∈ F) : hole H F a = none := by simp [hole, h]
theorem hole_out {H : Hp} {F : List Addr} {a : Addr} (h : a ∉ F) : hole H F a = H a := by simp [hole, h]
theorem hole_none {H : Hp} {F : List Addr} {a : Addr} (h : hole H F a = none) : a ∈ F ∨ H a = none := by
  by_cases z : a ∈ F
  · exact .inl z
  · rw [hole_out z] at h; exact .inr h
theorem hole_same (H : Hp) (F : List Addr) : Same (hole H F) H := fun a o e => by
  by_cases z : a ∈ F
  · rw [hole_in z] at e; cases e
  · rwa [hole_out z] at e
def spIO (K : PySem.W.Frag) (np : Nat) (fn : List T → Option T) : Sp := fun vs H Q _ => vs.length = np ∧ ∃ G ts F, Same G H ∧ TRs K G H ts vs F ∧ F.Nodup ∧ (∀ a ∈ F, G a = none) ∧ ∃ t, fn ts = some t ∧ ∀ v H', RR K G (hole H F) t v H' → Q v H'
def runIO (n : Nat) (js : List Nat) (body : SM) : List T → Option T := fun ts => (body (startE n ts)).bind fun o => match o with
  | .rt t => some t
  | .nx e => if js.Nodup then (picks e js).map fun us => .io (.p .none) us else none
  | _ => none
theorem TRs.es {K : PySem.W.Frag} {G H : Hp} : ∀ {ts : List T} {vs : List V} {F : List Addr} (n : Nat), TRs K G H ts vs F → ES K G H (ts.map some ++ List.replicate n none) (vs.map some ++ List.replicate n none) F
  | _, _, _, n, .nil => by
    simp only [List.map_nil, List.nil_append]
    induction n with
    | zero => exact .nil
    | succ n ih => exact .no ih
  | _, _, _, n, .cons h r => .so h (TRs.es n r)
theorem fn_okIO {P : Program} {w : World} {K : PySem.W.Frag} {mg : Str → Option Value} {base : Heap} {x qual : Str} {st : Stmt} {f : Addr} {fd : FuncData} {N ps : List Str} {k : Nat} {body : SM} {js : List Nat} (F : Fun K x qual st f fd) (S : FnScope N ps (defScope st))
    (hb : ∀ (cdv : Value) (A : Around) (outer : List Env) (s : Shared) (H : Hp) (E : XK), Room k (A.deeper (envOfC qual (defScope st) s.heap.objs.size f cdv)) → PSsM (cxOf CX0 P w K mg base N qual (defScope st) f cdv A outer s H E).nox (defBody st) body) :
    FnOk P w K mg base CX0 (k + 1) f fd ps (spIO K ps.length (runIO N.length js body)) := by
  refine F.ok S (fun vs H Q E h => h.1) fun cdv A outer s H vs Q E hr h => ⟨_, hb cdv A outer s H E hr, ?_⟩
  obtain ⟨hl, G, ts, F0, sg, pa, nd, hf, t, e, q⟩ := h
  simp only [runIO, Option.bind_eq_some_iff] at e
  obtain ⟨o, e1, e2⟩ := e
  have es := pa.es (N.length - vs.length)
  refine ⟨G, hole H F0, startE N.length ts, ⟨G, F0, ⟨?_, nd, (fun a ha => ⟨hf a ha, pa.alive a ha⟩), sg⟩, (fun a ha => hole_in ha), ⟨Same.refl G, hole_same H F0, sg, fun _ z => .inl z⟩⟩, o, e1, ?_⟩
  · unfold startE L2.start
    rw [← pa.len]
    exact es
  · cases o with
    | nx e =>
      simp only at e2
      split at e2
      · rename_i hj
        simp only [Option.map_eq_some_iff] at e2
        obtain ⟨us, e3, rfl⟩ := e2
        rintro σ' H' ⟨G', F', rel, hR, x⟩
        obtain ⟨vs', Fs, Fo, r1, r2, r3, r4, r5⟩ := rel.es.grab rel.nd hj e3
        refine q _ H' ⟨G', [] ++ Fs, x, .io (.p .non) r1, ?_, fun a ha => ?_⟩
        · rw [List.nil_append]; exact (List.nodup_append.mp r4).1
        · rw [List.nil_append] at ha
          have := r5 a (List.mem_append_left _ ha)
          exact ⟨(rel.fr a this).1, hR a this⟩
      · cases e2
    | rt u => cases e2; exact fun v H' r => q v H' r
    | bk e => cases e2
    | ct e => cases e2
def sRetIO (js : List Nat) (me : EM) : SM := fun env => (me env).bind fun t => t.pure?.bind fun d => if js.Nodup then (picks env js).map fun us => .rt (.io (.p d) us) else none
theorem psm_retIO {X : Cx} {e : Expr} {me : EM} {js : List Nat} {pos : Pos} (he : PM X e me) : PSM X (.Return (some e) pos) (sRetIO js me) := by
  refine PS_imp (ps_ret he) fun D σ H h => ?_
  obtain ⟨G0, R, env, ⟨G, F, rel, hR, x0⟩, o, e, g⟩ := h
  simp only [sRetIO, Option.bind_eq_some_iff] at e
  obtain ⟨t, e1, d, e2, e3⟩ := e
  split at e3
  · rename_i hj
    simp only [Option.map_eq_some_iff] at e3
    obtain ⟨us, e4, rfl⟩ := e3
    refine ⟨G, env, F, rel, t, e1, fun v H' G' F' x r => ?_⟩
    have rel' := rel.ext x
    obtain ⟨vs', Fs, Fo, r1, r2, r3, r4, r5⟩ := rel'.es.grab rel'.nd hj e4
    refine g v H' ⟨G', [] ++ Fs, x0.trans x, .io (.p (r.of_pure? e2)) r1, ?_, fun a ha => ?_⟩
    · rw [List.nil_append]; exact (List.nodup_append.mp r4).1
    · rw [List.nil_append] at ha
      have := r5 a (List.mem_append_left _ ha)
      exact ⟨(rel'.fr a this).1, hR a this⟩
  · cases e3
theorem own_ref {K : PySem.W.Frag} {G H : Hp} {t : T} {v : V} {F : List Addr} (r : TR K G H t v F) (h : t.strip.isOwn = true) : ∃ a, v = .ref a := by
  have r := r.strip
  generalize t.strip = u at r h
  cases r with
  | ml _ _ => exact ⟨_, rfl⟩
  | tp _ _ => exact ⟨_, rfl⟩
  | md _ _ => exact ⟨_, rfl⟩
  | ob _ _ _ _ => exact ⟨_, rfl⟩
  | _ => simp [T.isOwn] at h
theorem mix_trs {K : PySem.W.Frag} {G H : Hp} {σ : L2.St} {env : En} : ∀ {as : List AI} {xs : List (T × Bool)} {vs svs : List V} {ts : List T} {Fs : List Addr}, ArgsAI K G H σ as xs vs → evs env as = some xs → picks env (slotsOf as) = some ts → SlotsV σ (slotsOf as) svs → TRs K G H ts svs Fs →
    ∃ al : List Addr, al.length = (slotsOf as).length ∧ svs = al.map V.ref ∧ TRs K G H (mixT xs al) vs Fs
  | _, _, _, svs, ts, Fs, .nil, _, e, sv, tr => by
    simp only [slotsOf, picks, Option.some.injEq] at e; subst e
    cases tr
    exact ⟨[], rfl, rfl, .nil⟩
  | _, _, _, svs, ts, Fs, .ex (m := m) (t := t) (v := v) (as := as) (xs := xs) r ar, e0, e, sv, tr => by
    simp only [evs, Option.bind_eq_some_iff, Option.map_eq_some_iff] at e0
    obtain ⟨x, e1, xs', e2, e3⟩ := e0
    simp only [List.cons.injEq] at e3
    obtain ⟨_, rfl⟩ := e3
    obtain ⟨al, h1, h2, h3⟩ := mix_trs ar e2 e sv tr
    exact ⟨al, h1, h2, .cons r h3⟩
  | _, _, _, svs, ts, Fs, .sl (i := i) (t := t) (v := v) (as := as) (xs := xs) hv ar, e0, e, sv, tr => by
    simp only [evs, AI.ev, Option.bind_eq_some_iff, Option.map_eq_some_iff] at e0
    obtain ⟨x, ⟨t0, e1, e1'⟩, xs', e2, e3⟩ := e0
    simp only [List.cons.injEq] at e3
    obtain ⟨rfl, rfl⟩ := e3
    split at e1'
    · rename_i ho
      simp only [Option.some.injEq, Prod.mk.injEq, and_true] at e1'
      subst e1'
      simp only [slotsOf, picks, Option.bind_eq_some_iff, Option.map_eq_some_iff] at e
      obtain ⟨t1, e4, ts', e5, rfl⟩ := e
      rw [e1] at e4
      cases e4
      cases sv with
      | cons hv' sv =>
        rw [hv] at hv'
        cases hv'
        cases tr with
        | cons q qs =>
          obtain ⟨a, rfl⟩ := own_ref q ho
          obtain ⟨al, h1, h2, h3⟩ := mix_trs ar e2 e5 sv qs
          exact ⟨a :: al, by simp [slotsOf, h1], by simp [h2], .cons (.rf q.strip) h3⟩
    · cases e1'
theorem rfs_trs {K : PySem.W.Frag} {G H : Hp} : ∀ {al : List Addr} {us : List T} {vs : List V} {F : List Addr}, us.length = al.length → TRs K G H (rfs al us) vs F → TRs K G H us (al.map V.ref) F
  | [], [], _, _, _, r => by cases r; exact .nil
  | a :: al, u :: us, _, _, h, r => by
    simp only [rfs, List.zipWith_cons_cons] at r
    cases r with
    | cons q qs =>
      cases q with
      | rf q => exact .cons q (rfs_trs (by simpa using h) qs)
theorem wraps_trs {K : PySem.W.Frag} {G H G' H' : Hp} : ∀ {ts us : List T} {vs : List V} {F F' : List Addr}, TRs K G H ts vs F → TRs K G' H' us vs F' → TRs K G' H' (wraps ts us) vs F'
  | _, _, _, _, _, .nil, .nil => .nil
  | _, _, _, _, _, .cons q qs, .cons r rs => .cons (q.wrap r) (wraps_trs qs rs)
theorem tCallIO {K : PySem.W.Frag} {E : XK} {np : Nat} {fn : List T → Option T} {as : List AI} {tgt : Option Nat} (hnp : as.length = np) {D : Ends} {σ : L2.St} {H : Hp} {Q : VK} (h : tS K (sCallIO tgt fn as) D σ H)
    (hD : ∀ v H2 G0 R G2 F2 e d, Rel K G2 H2 e σ F2 → (∀ a ∈ F2, R a = none) → Ext G0 R G2 H2 → Rp K G2 v d → (match tgt with | none => Goes K G0 R D (.nx e) | some i => Goes K G0 R D (.nx (e.set i (some (.p d))))) → Q v H2) : tCall (spIO K np fn) [] E (tAI K as) σ H Q := by
  obtain ⟨G0, R, env, ⟨G, F, rel, hR, x0⟩, o, e, g⟩ := h
  obtain ⟨xs, d, us, e', e1, hj, io, e2, rfl⟩ := sCallIO_of e
  refine ⟨G, env, F, rel, xs, e1, fun vs H1 G1 x1 r1 => ?_⟩
  show spIO K np fn (vs ++ []) H1 Q E
  rw [List.append_nil]
  simp only [finE, Option.map_eq_some_iff] at e2
  obtain ⟨ts, e3, e2⟩ := e2
  have rel1 := rel.ext x1
  obtain ⟨svs, Fs, Fo, g1, g2, g3, g4, g5⟩ := rel1.es.grab rel1.nd hj e3
  obtain ⟨al, m1, m2, m3⟩ := mix_trs r1 e1 e3 g2 g1
  have ng := List.nodup_append.mp g4
  refine ⟨by rw [r1.len]; exact hnp, G1, mixT xs al, Fs, x1.gh, m3, ng.1, fun a ha => (rel1.fr a (g5 a (List.mem_append_left _ ha))).1, _, io.2 al m1, fun v H2 rr => ?_⟩
  obtain ⟨G2, F2, x2, t2, n2, f2⟩ := rr
  cases t2 with
  | io q qs =>
    rename_i vs' Fp Fq
    have hFp := q.pnil
    subst hFp
    rw [List.nil_append] at n2 f2
    have rp := q.pure
    have ts2 := rfs_trs (by rw [io.1, m1]) qs
    rw [← m2] at ts2
    have ts3 := wraps_trs g1 ts2
    have hFo : ∀ a ∈ Fo, a ∉ Fs := fun a ha z => ng.2.2 a z a ha rfl
    have kFo : Keep Fo H1 H2 := fun a ha o e => x2.hh a o (by rw [hole_out (hFo a ha)]; exact e)
    have es2 := g3.keep x2.gg kFo
    have dis : (Fq ++ Fo).Nodup := List.nodup_append.mpr ⟨n2, ng.2.1, fun a ha b hb e => by
      subst e
      have h1 := (rel1.fr a (g5 a (List.mem_append_right _ hb))).2
      have h2 := (f2 a ha).2
      rw [hole_out (hFo a hb)] at h2
      exact h1 h2⟩
    obtain ⟨F', p1, p2, p3⟩ := es2.fillAll g2 ts3 dis
    have relN : Rel K G2 H2 (putAll (clr env (slotsOf as)) (slotsOf as) (wraps ts us)) σ F' := ⟨p1, p2, fun a ha => by
      refine ⟨?_, p1.alive a ha⟩
      rcases List.mem_append.mp (p3 a ha) with z | z
      · exact (f2 a z).1
      · have h1 := rel1.fr a (g5 a (List.mem_append_right _ z))
        cases q2 : G2 a with
        | none => rfl
        | some o =>
          rcases x2.fr a (by rw [q2]; exact Option.some_ne_none o) with w | w
          · exact absurd h1.1 w
          · rw [hole_out (hFo a z)] at w; exact absurd w h1.2, x2.gh⟩
    have x01 := x0.trans x1
    have hRs : ∀ a, a ∈ Fs → R a = none := fun a ha => hR a (g5 a (List.mem_append_left _ ha))
    have xN : Ext G0 R G2 H2 := ⟨x01.gg.trans x2.gg, fun a o e => x2.hh a o (by rw [hole_out (fun z => by rw [hRs a z] at e; cases e)]; exact x01.hh a o e), x2.gh, fun a z => by
      rcases x2.fr a z with w | w
      · exact x01.fr a w
      · rcases hole_none w with w | w
        · exact .inr (hRs a w)
        · exact .inr (x01.hh.free w)⟩
    refine hD v H2 G0 R G2 F' _ d relN (fun a ha => ?_) xN rp ?_
    · rcases List.mem_append.mp (p3 a ha) with z | z
      · rcases hole_none (f2 a z).2 with w | w
        · exact hRs a w
        · exact x01.hh.free w
      · exact hR a (g5 a (List.mem_append_right _ z))
    · cases tgt with
      | none => simp only at e2 ⊢; subst e2; exact g
      | some i => simp only at e2 ⊢; subst e2; exact g
section
variable {X : Cx} {k np : Nat} {f : Addr} {fd : FuncData} {ps : List Str} {fn : List T → Option T} {x y : Str} {e : Expr} {es : List Expr} {as : List AI} {p pos spos pos' : Pos}
/-- y = f(..) -/
theorem psm_setIO {i : Nat} (hN : X.N.Nodup) (F : FnOk X.prog X.w X.K X.mg X.base CX0 k f fd ps (spIO X.K np fn)) (hr : Room k X.A) (hg : Gl X x) (hm : X.mg x = some (.ref f)) (hk : PySem.W.keepIn X.K (.ref f) = true) (hb : Binds X.K fd ps []) (ha : PAI X (e :: es) as) (hnp : as.length = np)
    (hd : (x == ("__debug__" : Str)) = false := by decide) (he : starEach (e :: es) X.env = (false, eval e X.env) :: starEach es X.env := by rfl) (hpl : (backTo pos (starEach es X.env)).any (·.1) = false := by rfl)
    (hi : X.N[i]? = some y := by rfl) (hx : Loc X.env.scope y := by first | exact Or.inl rfl | exact Or.inr rfl) (hs : swapsWith (.Call (.Name x p) (e :: es) [] pos) (some (.Name y pos')) spos.line X.env = pure false := by rfl) (hf : X.fn y = true ∨ X.env.scope.names.lookup y = some .local := by first | exact .inl rfl | exact .inr rfl | assumption) :
    PSM X (.Assign [.Name y pos'] (.Call (.Name x p) (e :: es) [] pos) spos) (sCallIO (some i) fn as) :=
  PS_imp (ps_set hN hi hx (pe_call F hr hg hm hk hb .nil pass0 ha hd he hpl) hs hf) fun D σ H h => tCallIO hnp h fun v H2 G0 R G2 F2 e d rel hR x rp g => by
    have sr := SR.putp rel hR x i rp
    exact g _ _ sr
end
end M
namespace M
open PySem PySem.Spec PyProof.Rows L2

def forg (env : En) : List Nat → En
  | [] => env
  | j :: js => forg (env.set j none) js
theorem forg_set {i : Nat} {x : Option T} : ∀ {js : List Nat} {env : En}, i ∉ js → (forg env js).set i x = forg (env.set i x) js
  | [], _, _ => rfl
  | j :: js, env, h => by
    have h1 : i ≠ j := fun z => h (z ▸ List.mem_cons_self)
    simp only [forg]
    rw [forg_set (fun z => h (List.mem_cons_of_mem _ z)), List.set_comm _ _ (fun z => h1 z.symm)]
theorem ES.forget {K : PySem.W.Frag} {G H : Hp} {env : En} {σ : L2.St} {F : List Addr} (es : ES K G H env σ F) (i : Nat) : ∃ F', ES K G H (env.set i none) σ F' ∧ F'.Sublist F := by
  by_cases h : i < σ.length
  · obtain ⟨F', h1, h2⟩ := es.drop i σ[i]
    rw [set_get (List.getElem?_eq_getElem h)] at h1
    exact ⟨F', h1, h2⟩
  · rw [List.set_eq_of_length_le (by rw [es.length]; omega)]
    exact ⟨F, es, List.Sublist.refl _⟩
theorem SR.forget {K : PySem.W.Frag} {G0 R H : Hp} {σ : L2.St} : ∀ {js : List Nat} {env : En}, SR K G0 R env σ H → SR K G0 R (forg env js) σ H
  | [], _, s => s
  | j :: js, env, ⟨G, F, rel, hR, x⟩ => by
    obtain ⟨F', h1, h2⟩ := rel.es.forget j
    exact SR.forget (js := js) ⟨G, F', ⟨h1, rel.nd.sublist h2, fun a ha => rel.fr a (h2.subset ha), rel.sm⟩, fun a ha => hR a (h2.subset ha), x⟩
def FDw (i : Nat) (js : List Nat) (g : D → En → Option En) (mb : SM) (ds : List (Key × D)) (env e' : En) : Prop := i ∉ js ∧ ∀ a od kvs, ∃ e'', FD i (.mk a od kvs ds) g mb (dkeys ds) (env.set i (some (.mk a od kvs ds))) e'' ∧ forg e'' (i :: js) = forg e' (i :: js)
open Classical in
noncomputable def sForW (i : Nat) (js : List Nat) (g : D → En → Option En) (mb : SM) : SM := fun env => match slotT env i with
  | some (.md ds) => if h : ∃ e', FDw i js g mb ds env e' then some (.nx ((forg (choose h) (i :: js)).set i (some (.md ds)))) else none
  | _ => none
theorem sForW_eq {i : Nat} {js : List Nat} {g : D → En → Option En} {mb : SM} {env e' : En} {ds : List (Key × D)} (hs : env[i]? = some (some (.md ds))) (h : FDw i js g mb ds env e') : sForW i js g mb env = some (.nx ((forg e' (i :: js)).set i (some (.md ds)))) := by
  have hsl : slotT env i = some (.md ds) := by unfold slotT; rw [hs]; rfl
  have ex : ∃ e', FDw i js g mb ds env e' := ⟨e', h⟩
  unfold sForW
  rw [hsl]
  simp only
  rw [dif_pos ex]
  have h2 := Classical.choose_spec ex
  obtain ⟨e1, a1, b1⟩ := h2.2 0 default []
  obtain ⟨e2, a2, b2⟩ := h.2 0 default []
  have z := FD.det a1 a2
  subst z
  rw [← b1, b2]
section
variable {X : Cx} {pos npos : Pos} {tg : Expr} {body : List Stmt} {js : List Nat} {g : D → En → Option En} {mb : SM}
theorem psm_forW (i : Nat) (ws : List Nat) {x : Str} (hp : PassesOwn (model X.prog X.w) X.A X.env X.xe) (hc : X.calm = true) (hg : GM X tg js g) (hb : PSsM X body mb) (hN : X.N[i]? = some x := by rfl) (hvis : Vis X.env.scope x := by first | exact Or.inl rfl | exact Or.inr (Or.inl rfl) | exact Or.inr (Or.inr rfl)) (hd : (x == ("__debug__" : Str)) = false := by decide)
    (hcd : (x == ("__classdict__" : Str)) = false := by decide) (hs : ∀ y, foldedSetIterable (.Name x npos) X.env y = pure y := by intro _; rfl) : PSM X (.For tg (.Name x npos) body [] pos) (sForW i ws g mb) := by
  refine PS_imp (ps_lock (ps_for hp hc (pi_keys (pe_var hN hvis hd hcd)) hg hb hs)) fun D σ H h => ?_
  obtain ⟨G0, R, env, ⟨G, F, rel, hR, x0⟩, o, e, gg⟩ := h
  unfold sForW at e
  split at e
  · rename_i ds hsl
    split at e
    · rename_i hex
      cases e
      have hfd := Classical.choose_spec hex
      generalize Classical.choose hex = e' at hfd gg
      obtain ⟨hni, hfd⟩ := hfd
      obtain ⟨v0, _, _, _, h1, _⟩ := rel.mut (slotT_eq hsl) (show T.at [] (T.md ds) = some (.md ds) from rfl)
      obtain ⟨a, rfl, tr, up⟩ := md_at rel hR x0 (slotT_eq hsl) h1 (.inl ⟨ds, rfl⟩)
      cases tr with
      | md ha kr =>
        rename_i kvs
        refine ⟨a, .dK kvs, ha, trivial, fun od => ?_⟩
        have sr1 := up (.frz od (.dK kvs)) (.mk a od kvs ds) (.mk upd_same kr)
        refine ⟨.ref a, h1, a, od, rfl, .inl ⟨kvs, upd_same, ?_⟩⟩
        obtain ⟨e'', hfd1, hfe⟩ := hfd a od kvs
        have hlen : (dkeys ds).length = kvs.length := by unfold dkeys; rw [List.length_map, kr.length]
        refine ⟨fun j m σ H => m = kvs.length - j ∧ j ≤ kvs.length ∧ ∃ envi, SR X.K G0 R envi σ H ∧ FD i (.mk a od kvs ds) g mb ((dkeys ds).drop j) envi e'', ⟨kvs.length, rfl, Nat.zero_le _, _, sr1, by rw [List.drop_zero]; exact hfd1⟩, ?_⟩
        rintro j m σ H ⟨rfl, hj, envi, ⟨G2, F2, rel2, hR2, x2⟩, hfd2⟩
        have hat := hfd2.at
        obtain ⟨v1, _, _, _, k1, _⟩ := rel2.mut hat (show T.at [] (T.mk a od kvs ds) = some (.mk a od kvs ds) from rfl)
        obtain ⟨a', rfl, tr2, up2⟩ := md_at rel2 hR2 x2 hat k1 (.inr ⟨a, od, kvs, ds, rfl⟩)
        cases tr2 with
        | mk ha2 kr2 =>
          by_cases hlt : j < kvs.length
          · have hlt' : j < (dkeys ds).length := by rw [hlen]; exact hlt
            rw [List.drop_eq_getElem_cons hlt'] at hfd2
            obtain ⟨_, e1, hg1, e2, hb1, hr1⟩ := hfd2
            refine .inr ⟨⟨ha2, hlt⟩, fun σ' H' => ∃ envi, SR X.K G0 R envi σ' H' ∧ FD i (.mk a od kvs ds) g mb ((dkeys ds).drop (j + 1)) envi e'', fun σ' H' w => ⟨kvs.length - (j + 1), by omega, rfl, hlt, w⟩, fun y H3 yl => ?_⟩
            obtain ⟨rfl, k, v, hk, rfl⟩ := yl
            obtain ⟨d, hd'⟩ := kr2.get hk
            have hkey : (dkeys ds)[j] = keyD k := by
              have h0 : (dkeys ds)[j]? = some (keyD k) := by unfold dkeys; rw [List.getElem?_map, hd']; rfl
              rw [List.getElem?_eq_getElem hlt'] at h0
              exact Option.some.inj h0
            refine ⟨G2, envi, F2, (dkeys ds)[j], rel2, by rw [hkey]; exact Rp.ofKey k, e1, hg1, fun σ4 F4 rel4 s4 _ => ?_⟩
            rcases hb1 with hb1 | hb1
            · exact ⟨G0, R, e1, ⟨G2, F4, rel4, fun b hb => hR2 b (s4 b hb), x2⟩, .nx e2, hb1, fun σ' H' s' => ⟨e2, s', hr1⟩⟩
            · exact ⟨G0, R, e1, ⟨G2, F4, rel4, fun b hb => hR2 b (s4 b hb), x2⟩, .ct e2, hb1, fun σ' H' s' => ⟨e2, s', hr1⟩⟩
          · have hjj : j = kvs.length := by omega
            subst hjj
            rw [List.drop_eq_nil_of_le (by rw [hlen]; exact Nat.le_refl _)] at hfd2
            obtain ⟨z, _⟩ := hfd2
            have up3 := SR.forget (js := ws) (up2 (.dK kvs) (.md ds) (.md upd_same kr2))
            rw [← z] at up3
            have e9 : forg (e''.set i (some (T.wrap (.mk a od kvs ds) (.md ds)))) ws = (forg e' (i :: ws)).set i (some (.md ds)) := by
              rw [← hfe, forg, forg_set hni, List.set_set]; rfl
            rw [e9] at up3
            exact .inl ⟨⟨ha2, Nat.le_refl _⟩, ha2, gg σ _ up3⟩
    · cases e
  · cases e
end
end M
namespace M
open PySem PySem.Spec PyProof.Rows L2

section
variable {X : Cx}
end
def ltB (p q : Bool) : Bool := !p && q
def bOp2 (f : Bool → Bool → Bool) : T → T → Option T := fun a b => a.bool?.bind fun p => b.bool?.map fun q => .p (.bool (f p q))
def ltBT : T → T → Option T := bOp2 ltB
end M
namespace M
open PySem PySem.Spec PyProof.Rows L2

section
variable {X : Cx} {o e : Expr} {mo me : EM} {apos cpos : Pos}
end
section
variable {X : Cx} {pos : Pos} {o e : Expr} {mp : PMm} {me : EM} {apos cpos : Pos}
end
end M
namespace M
open PySem PySem.Spec PyProof.Rows L2

section
variable {X : Cx} {pos : Pos} {e : Expr} {es : List Expr} {me : EM} {ms : En → Option (List T)}
end
section
variable {X : Cx} {pos : Pos}
end
end M
namespace M
open PySem PySem.Spec PyProof.Rows L2

def viewE (env : En) : En := env.map fun o => o.bind T.view
theorem TR.view {K : PySem.W.Frag} {G H : Hp} (s : Same G H) {t u : T} {v : V} {F : List Addr} (r : TR K G H t v F) (e : t.view = some u) : TR K H H u v [] := by
  cases r with
  | sc h => simp [T.view] at e; subst e; exact .sc (s.seq h)
  | p h => simp [T.view, T.snap] at e; subst e; exact .p (h.mono s)
  | io _ _ => simp [T.view, T.snap] at e
  | mk h r => simp [T.view, T.snap] at e
  | fo hc h r => simp [T.view] at e; subst e; exact .fo hc (s _ _ h) (r.mono s)
  | ob hc h h' r =>
    simp only [T.view, Option.map_eq_some_iff] at e
    obtain ⟨d, e3, rfl⟩ := e
    exact .fo hc h (TRf.snapF s r e3)
  | ml h r =>
    simp only [T.view, Option.map_eq_some_iff] at e
    obtain ⟨d, e3, rfl⟩ := e
    exact .p ((TR.ml h r).live s e3)
  | tp h r =>
    simp only [T.view, Option.map_eq_some_iff] at e
    obtain ⟨d, e3, rfl⟩ := e
    exact .p ((TR.tp h r).live s e3)
  | md h r =>
    simp only [T.view, Option.map_eq_some_iff] at e
    obtain ⟨d, e3, rfl⟩ := e
    exact .p ((TR.md (G := G) h r).live s e3)
  | rf r =>
    simp only [T.view, Option.map_eq_some_iff] at e
    obtain ⟨d, e3, rfl⟩ := e
    exact .p ((TR.rf r).live s e3)
theorem ES.view {K : PySem.W.Frag} {G H : Hp} (s : Same G H) : ∀ {env : En} {σ : L2.St} {F : List Addr}, ES K G H env σ F → ES K H H (viewE env) σ []
  | _, _, _, .nil => .nil
  | _, _, _, .no r => .no (ES.view s r)
  | _, _, _, .so (t := t) (v := v) h r => by
    have r' := ES.view s r
    show ES K H H ((t.view) :: viewE _) _ []
    cases e : t.view with
    | none => exact .no r'
    | some u => exact .so (h.view s e) r'
theorem Rel.view {K : PySem.W.Frag} {G H : Hp} {env : En} {σ : L2.St} {F : List Addr} (r : Rel K G H env σ F) : Rel K H H (viewE env) σ [] :=
  ⟨r.es.view r.sm, .nil, fun a h => (nomatch h), Same.refl H⟩
section
variable {X : Cx} {e : Expr} {me : EM} {mb : En → Option Bool}
end
end M
namespace M
open PySem PySem.Spec PyProof.Rows L2

/-- frozen, or a list that owns no more than itself -/
def T.lent : T → Option T
  | .p d => some (.p d)
  | .sc ns => some (.sc ns)
  | .ml ts => (pures ts).map fun ds => .p (.list ds)
  | _ => none
section
variable {X : Cx} {k np : Nat} {f : Addr} {fd : FuncData} {ps : List Str} {fn : List T → Option T} {x : Str} {e : Expr} {es : List Expr} {ms : En → Option (List T)} {p pos : Pos}
end
end M
namespace M
open PySem PySem.Spec PyProof.Rows L2

/-- the three iterators and the three new cells lie apart from each other and from the lists -/
structure Apart3 (z TI TO i1 i2 i3 a b c : Addr) : Prop where
  zTI : TI ≠ z
  zTO : TO ≠ z
  TT : TI ≠ TO
  z1 : i1 ≠ z
  z2 : i2 ≠ z
  z3 : i3 ≠ z
  TI1 : TI ≠ i1
  TI2 : TI ≠ i2
  TI3 : TI ≠ i3
  TO1 : TO ≠ i1
  TO2 : TO ≠ i2
  TO3 : TO ≠ i3
  d12 : i1 ≠ i2
  d13 : i1 ≠ i3
  d23 : i2 ≠ i3
  az : a ≠ z ∧ b ≠ z ∧ c ≠ z
  aT : a ≠ TO ∧ b ≠ TO ∧ c ≠ TO
  a1 : a ≠ i1 ∧ b ≠ i1 ∧ c ≠ i1
  a2 : a ≠ i2 ∧ b ≠ i2 ∧ c ≠ i2
  a3 : a ≠ i3 ∧ b ≠ i3 ∧ c ≠ i3
theorem Apart3.sep {z TI TO i1 i2 i3 a b c : Addr} (D : Apart3 z TI TO i1 i2 i3 a b c) : ZipSep3 z TI TO i1 i2 i3 [i1, a] [i2, b] [i3, c] := by
  obtain ⟨h1, h2, h3, h4, h5, h6, h7, h8, h9, h10, h11, h12, h13, h14, h15, ⟨k1, k2, k3⟩, ⟨k4, k5, k6⟩, ⟨k7, k8, k9⟩, ⟨k10, k11, k12⟩, k13, k14, k15⟩ := D
  constructor <;> simp [*, Ne.symm h4, Ne.symm h5, Ne.symm h6, Ne.symm h13, Ne.symm h14, Ne.symm h15, Ne.symm k1, Ne.symm k2, Ne.symm k3, Ne.symm k4, Ne.symm k5, Ne.symm k6, Ne.symm k7, Ne.symm k8, Ne.symm k9, Ne.symm k10, Ne.symm k11, Ne.symm k12, Ne.symm k13, Ne.symm k14, Ne.symm k15]
/-- a list's iterator, told at the turn at which it is asked -/
theorem draws_now {prog : Program} {w : World} {A : Around} (hh : A.handled = none) {it l : Addr} (hne : l ≠ it) {items : Array Value} {i : Nat} {h : Heap} (h1 : h.IsListIter it l i) (h2 : h.IsList l items) :
    ∃ n P St, Draws prog w A it [it, l] n P St ∧ St i h ∧ i ≤ n ∧ (items.size ≤ i → i = n) := by
  by_cases hi : i < items.size
  · exact ⟨_, _, _, Draws.list hh it l hne items, ⟨h1, h2⟩, by omega, by omega⟩
  · refine ⟨i, fun _ _ => True, fun j h => j = i ∧ h.IsListIter it l j ∧ h.IsList l items, ⟨fun j h st => ?_, fun j h h' st hk => ?_, fun j s Q E hj st hQ => ?_, fun s Q E st hE => ?_⟩, ⟨rfl, h1, h2⟩, Nat.le_refl _, fun _ => rfl⟩
    · obtain ⟨o, ho, _⟩ := st.2.1
      exact ⟨o, ho⟩
    · exact ⟨st.1, st.2.1.at fun o e => hk it (by simp) o e, st.2.2.at fun o e => hk l (by simp) o e⟩
    · have := st.1; omega
    · exact wpAny_nextOf_list_end hh st.2.1 st.2.2 (by simp; omega) hE
/-- what the cells of a zip of three say at turn i -/
structure At3 (z TI TO i1 i2 i3 a b c : Addr) (i : Nat) (h : Heap) : Prop where
  zz : IsZip h z TI TO .none
  ti : IsTupOf3 h TI (.ref i1) (.ref i2) (.ref i3)
  to : ∃ x y u, IsTupOf3 h TO x y u
  l1 : h.IsListIter i1 a i
  l2 : h.IsListIter i2 b i
  l3 : h.IsListIter i3 c i
theorem fp3 {z TI TO i1 i2 i3 x : Addr} (h : x ∈ [z, TI, TO, i1, i2, i3]) : x = z ∨ x = TI ∨ x = TO ∨ x = i1 ∨ x = i2 ∨ x = i3 := by simpa using h
theorem At3.lt {z TI TO i1 i2 i3 a b c : Addr} {i : Nat} {h : Heap} (S : At3 z TI TO i1 i2 i3 a b c i h) {x : Addr} (hx : x ∈ [z, TI, TO, i1, i2, i3]) : x < h.objs.size := by
  obtain ⟨_, _, _, t⟩ := S.to
  obtain ⟨_, e1, _⟩ := S.l1
  obtain ⟨_, e2, _⟩ := S.l2
  obtain ⟨_, e3, _⟩ := S.l3
  rcases fp3 hx with rfl | rfl | rfl | rfl | rfl | rfl
  · exact Heap.lt_size S.zz
  · exact Heap.lt_size S.ti
  · exact Heap.lt_size t
  · exact Heap.lt_size e1
  · exact Heap.lt_size e2
  · exact Heap.lt_size e3
end M
namespace M
open PySem PySem.Spec PyProof.Rows L2

section
variable {X : Cx} {e e2 e3 : Expr} {me me2 me3 : EM} {p pos : Pos}
end
end M
namespace M
open PySem PySem.Spec PyProof.Rows L2

/-- a tuple and a list, as they stand at each turn; the items in new pairs -/
def ItzTL (K : PySem.W.Frag) (a b : Addr) : It where
  go := fun i H => ∃ (xs ys : List V) (x y : V), (SqT K H a xs ∧ xs[i]? = some x) ∧ SqL K H b ys ∧ ys[i]? = some y
  yld := fun i H v H' => ∃ T x y, v = .ref T ∧ H T = none ∧ H' = upd H T (.tup [x, y]) ∧ (∀ xs, SqT K H a xs → xs[i]? = some x) ∧ ∀ ys, SqL K H b ys → ys[i]? = some y
  stop := fun i H => ∃ xs ys : List V, SqT K H a xs ∧ SqL K H b ys ∧ (xs.length ≤ i ∨ ys.length ≤ i)
structure Apart2 (z TI TO i1 i2 a b : Addr) : Prop where
  zTI : TI ≠ z
  zTO : TO ≠ z
  TT : TI ≠ TO
  z1 : i1 ≠ z
  z2 : i2 ≠ z
  TI1 : TI ≠ i1
  TI2 : TI ≠ i2
  TO1 : TO ≠ i1
  TO2 : TO ≠ i2
  d12 : i1 ≠ i2
  az : a ≠ z ∧ b ≠ z
  aT : a ≠ TO ∧ b ≠ TO
  a1 : a ≠ i1 ∧ b ≠ i1
  a2 : a ≠ i2 ∧ b ≠ i2
theorem Apart2.sep {z TI TO i1 i2 a b : Addr} (D : Apart2 z TI TO i1 i2 a b) : ZipSep2 z TI TO i1 i2 [i1, a] [i2, b] := by
  obtain ⟨h1, h2, h3, h4, h5, h7, h8, h10, h11, h13, ⟨k1, k2⟩, ⟨k4, k5⟩, ⟨k7, k8⟩, k10, k11⟩ := D
  constructor <;> simp [*, Ne.symm h4, Ne.symm h5, Ne.symm h13, Ne.symm k1, Ne.symm k2, Ne.symm k4, Ne.symm k5, Ne.symm k7, Ne.symm k8, Ne.symm k10, Ne.symm k11]
theorem drawsT_now {prog : Program} {w : World} {A : Around} (hh : A.handled = none) {it l : Addr} (hne : l ≠ it) {items : Array Value} {i : Nat} {h : Heap} (h1 : h.IsTupleIter it l i) (h2 : h.IsTuple l items) :
    ∃ n P St, Draws prog w A it [it, l] n P St ∧ St i h ∧ i ≤ n ∧ (items.size ≤ i → i = n) := by
  by_cases hi : i < items.size
  · exact ⟨_, _, _, Draws.tuple hh it l hne items, ⟨h1, h2⟩, by omega, by omega⟩
  · refine ⟨i, fun _ _ => True, fun j h => j = i ∧ h.IsTupleIter it l j ∧ h.IsTuple l items, ⟨fun j h st => ?_, fun j h h' st hk => ?_, fun j s Q E hj st hQ => ?_, fun s Q E st hE => ?_⟩, ⟨rfl, h1, h2⟩, Nat.le_refl _, fun _ => rfl⟩
    · obtain ⟨o, ho, _⟩ := st.2.1
      exact ⟨o, ho⟩
    · exact ⟨st.1, st.2.1.at fun o e => hk it (by simp) o e, st.2.2.at fun o e => hk l (by simp) o e⟩
    · have := st.1; omega
    · exact wpAny_nextOf_tuple_end hh st.2.1 st.2.2 (by simp; omega) hE
structure At2 (z TI TO i1 i2 a b : Addr) (i : Nat) (h : Heap) : Prop where
  zz : IsZip h z TI TO .none
  ti : IsTupOf2 h TI (.ref i1) (.ref i2)
  to : ∃ x y, IsTupOf2 h TO x y
  l1 : h.IsTupleIter i1 a i
  l2 : h.IsListIter i2 b i
theorem fp2 {z TI TO i1 i2 x : Addr} (h : x ∈ [z, TI, TO, i1, i2]) : x = z ∨ x = TI ∨ x = TO ∨ x = i1 ∨ x = i2 := by simpa using h
theorem At2.lt {z TI TO i1 i2 a b : Addr} {i : Nat} {h : Heap} (S : At2 z TI TO i1 i2 a b i h) {x : Addr} (hx : x ∈ [z, TI, TO, i1, i2]) : x < h.objs.size := by
  obtain ⟨_, _, t⟩ := S.to
  obtain ⟨_, e1, _⟩ := S.l1
  obtain ⟨_, e2, _⟩ := S.l2
  rcases fp2 hx with rfl | rfl | rfl | rfl | rfl
  · exact Heap.lt_size S.zz
  · exact Heap.lt_size S.ti
  · exact Heap.lt_size t
  · exact Heap.lt_size e1
  · exact Heap.lt_size e2
theorem turn_zipTL {P : Program} {w : World} {K : PySem.W.Frag} {elts : List Expr} {kk : Nat} {tpos : Pos} {a b z TI TO i1 i2 : Addr} (D : Apart2 z TI TO i1 i2 a b) :
    Turn P w K (.Tuple elts kk tpos) (ItzTL K a b) [z, TI, TO, i1, i2] z (At2 z TI TO i1 i2 a b) where
  mem := List.mem_cons_self
  self := fun A i s Q E st h => wpAny_pyIter_zip st.zz h
  obj := fun i h st x hx => by
    obtain ⟨_, _, t⟩ := st.to
    obtain ⟨o1, e1, _, q1⟩ := st.l1
    obtain ⟨o2, e2, _, q2⟩ := st.l2
    rcases fp2 hx with rfl | rfl | rfl | rfl | rfl
    · exact ⟨_, st.zz, nofun⟩
    · exact ⟨_, st.ti, nofun⟩
    · exact ⟨_, t, nofun⟩
    · exact ⟨o1, e1, fun v e => by rw [q1] at e; cases e⟩
    · exact ⟨o2, e2, fun v e => by rw [q2] at e; cases e⟩
  keep := fun i h h' st k => by
    obtain ⟨x, y, t⟩ := st.to
    exact ⟨k z (by simp) _ st.zz, k TI (by simp) _ st.ti, ⟨x, y, k TO (by simp) _ t⟩, st.l1.at fun o => k i1 (by simp) o, st.l2.at fun o => k i2 (by simp) o⟩
  item := by
    rintro X rfl rfl rfl hc i pins s σ H E I hf st ⟨xs, ys, x, y, ⟨sx, gx⟩, sy, gy⟩
    obtain ⟨x0, y0, t⟩ := st.to
    obtain ⟨vx, rx, px, _⟩ := I.tuple sx
    obtain ⟨vy, ry, py, _⟩ := I.list sy
    obtain ⟨wx, kx, ux⟩ := rx.get gx
    obtain ⟨wy, ky, uy⟩ := ry.get gy
    have lx := (List.getElem?_eq_some_iff.mp kx).1
    have ly := (List.getElem?_eq_some_iff.mp ky).1
    have hh : X.A.in1.handled = none := I.ok.hd hc
    have zlt := st.lt (x := z) (by simp)
    refine wpAny_pyNext_zipD2_item D.sep (Draws.tuple hh i1 a D.a1.1 vx.toArray) (Draws.list hh i2 b D.a2.2 vy.toArray) st.zz st.ti t ⟨st.l1, px⟩ ⟨st.l2, py.isList⟩ (by simpa using lx) (by simpa using ly) fun b1 b2 h' tk m1 m2 z' to' n1 n2 new _ hk => ?_
    have m1 : b1 = wx := by simpa [kx] using m1.symm
    have m2 : b2 = wy := by simpa [ky] using m2.symm
    subst m1 m2
    refine ⟨_, rfl, wpAny_letOwnedTupleGo_zip (s := { s with heap := h', toks := tk }) z' fun h2 z2 sb => ?_⟩
    have up : ∀ {q : Addr} {o : Obj}, q ≠ z → h'.get? q = some o → h2.get? q = some o := fun hq e => (sb.2 _ hq).trans e
    have nw : h2.get? s.heap.objs.size = some { cls := .type "tuple", data := .seq #[b1, b2] } := up (Nat.ne_of_gt zlt) new
    have ok : ObjOk X.prog X.w (upd H s.heap.objs.size (.tup [x, y])) h2 s.heap.objs.size (.tup [x, y]) := ⟨by show 2 ≤ sizeLine; decide, [b1, b2], .cons ux (.cons uy .nil), ⟨_, nw, rfl, _, rfl⟩⟩
    have out : ∀ q o, q ∉ [z, TI, TO, i1, i2] → s.heap.get? q = some o → h2.get? q = some o := fun q o hq e => by
      simp only [List.mem_cons, List.not_mem_nil, or_false, not_or] at hq
      exact up hq.1 (hk q o hq.1 hq.2.2.1 hq.2.2.2.1 hq.2.2.2.2 e)
    refine ⟨.ref s.heap.objs.size, _, I.turnedNew (t' := tk) (ch := [z, TI, TO, i1, i2]) out hf (Nat.le_refl _) ok, rfl, ⟨_, x, y, rfl, I.hok.fresh (Nat.le_refl _), rfl, fun l hl => by rw [I.tuple_inj hl sx]; exact gx, fun l hl => by rw [I.list_inj hl sy]; exact gy⟩, ?_, fun q hq => ?_⟩
    · exact ⟨z2, up D.zTI (hk _ _ D.zTI D.TT D.TI1 D.TI2 st.ti), ⟨_, _, up D.zTO to'⟩, n1.1.at fun o => up D.z1, n2.1.at fun o => up D.z2⟩
    · rw [upd_ne (Nat.ne_of_lt (st.lt hq))]
      exact (hf q hq).1
  done := by
    rintro X rfl rfl rfl hc i pins s σ H E I hf st ⟨xs, ys, sx, sy, hend⟩
    obtain ⟨x0, y0, t⟩ := st.to
    obtain ⟨vx, rx, px, _⟩ := I.tuple sx
    obtain ⟨vy, ry, py, _⟩ := I.list sy
    have lx := rx.length
    have ly := ry.length
    have hh : X.A.in1.handled = none := I.ok.hd hc
    obtain ⟨n1, P1, S1, D1, t1, g1, f1⟩ := drawsT_now (prog := X.prog) (w := X.w) hh D.a1.1 st.l1 px
    obtain ⟨n2, P2, S2, D2, t2, g2, f2⟩ := draws_now (prog := X.prog) (w := X.w) hh D.a2.2 st.l2 py.isList
    refine wpAny_pyNext_zipD2_end D.sep D1 D2 st.zz st.ti t t1 t2 g1 g2 ?_ fun h' tk hk => ⟨rfl, I.turnedL (t' := tk) (ch := [z, TI, TO, i1, i2]) (fun q o hq e => ?_) hf⟩
    · rcases hend with e | e
      · exact .inl (f1 (by simp; omega))
      · exact .inr (f2 (by simp; omega))
    · simp only [List.mem_cons, List.not_mem_nil, or_false, not_or] at hq
      exact hk q o hq.1 hq.2.2.1 hq.2.2.2.1 hq.2.2.2.2 e
theorem apart2_new {n a b : Nat} (ha : a < n) (hb : b < n) : Apart2 (n + 4) (n + 2) (n + 3) n (n + 1) a b := by
  have key : ∀ {x y : Nat}, (x < y ∨ y < x) → ¬ @Eq Addr x y := fun h e => by have e : @Eq Nat _ _ := e; omega
  constructor <;> first | (exact key (by omega)) | (refine ⟨key ?_, key ?_⟩ <;> omega)
set_option maxHeartbeats 1000000 in
theorem pi_zipTL {X : Cx} {e e2 : Expr} {ta : TA} {p pos tpos : Pos} {elts : List Expr} {kk : Nat} (hg : Gl X "zip") (hm : X.mg "zip" = none) (ha : PA X [e, e2] ta)
    (hs : starEach [e, e2] X.env = (false, eval e X.env) :: starEach [e2] X.env := by rfl) (hpl : (backTo pos (starEach [e2] X.env)).any (·.1) = false := by rfl) :
    PI X (.Tuple elts kk tpos) (.Call (.Name "zip" p) [e, e2] [] pos) (fun σ H R => ta σ H fun vs H1 => ∃ a b xs ys, vs = [.ref a, .ref b] ∧ SqT X.K H1 a xs ∧ SqL X.K H1 b ys ∧ R (ItzTL X.K a b) H1) := by
  constructor
  intro pins s σ H R I h
  refine Call_ ?_
  refine ld_blt I hg hm PyProof.Rows.boot_zip ?_
  refine PyProof.Rows.callWith_type1 (thn (ha.run pos pins s σ H _ I h) ?_) hs hpl
  rintro us s1 ⟨vs, H1, I1, r1, a, b, xs, ys, rfl, sx, sy, q⟩
  obtain _ | ⟨ra, r1⟩ := r1
  obtain _ | ⟨rb, r1⟩ := r1
  cases r1
  cases ra
  cases rb
  obtain ⟨vx, rx, px, _⟩ := I1.tuple sx
  obtain ⟨vy, ry, py, _⟩ := I1.list sy
  refine zip_begins2 (begins_tuple a vx.toArray) (begins_list b vy.toArray) px py.isList fun h' hz hT hO o1 o2 _ hk => wpAny_pyIter_zip hz ?_
  have I2 : Inv X pins σ H1 { s1 with heap := h' } := I1.kept (t' := s1.toks) hk
  have pxl : a < s1.heap.objs.size := by obtain ⟨_, e, _⟩ := px; exact Heap.lt_size e
  refine ⟨_, _, _, _, H1, rfl, I2, turn_zipTL (apart2_new pxl py.lt), ⟨hz, hT, ⟨_, _, hO⟩, ⟨_, o1, rfl, rfl⟩, ⟨_, o2, rfl, rfl⟩⟩, fun x hx => ?_, q⟩
  have hle : s1.heap.objs.size ≤ x := by
    rcases fp2 hx with rfl | rfl | rfl | rfl | rfl
    all_goals first | exact Nat.le_refl _ | exact Nat.le_add_right _ _
  exact I1.fpOk hle (I1.hok.fresh hle)
theorem wk_zipTL {K : PySem.W.Frag} {B G0 : Hp} {a b : Addr} {vs ws : List V} {xs ys : List D} (h1 : SqT K B a vs) (h2 : SqL K B b ws) (r1 : Rps K G0 vs xs) (r2 : Rps K G0 ws ys) : Wk2 K B G0 (ItzTL K a b) (zipD xs ys) where
  go := fun i H s hi => by
    rw [zipD_length] at hi
    have l1 := r1.length
    have l2 := r2.length
    exact ⟨vs, ws, vs[i], ws[i], ⟨Same.seqT s h1, by simp⟩, s.seq h2, by simp⟩
  stop := fun i H s hi => by
    rw [zipD_length] at hi
    have l1 := r1.length
    have l2 := r2.length
    exact ⟨vs, ws, Same.seqT s h1, s.seq h2, by omega⟩
  yld := fun i H x H' G d s s0 sg y e => by
    obtain ⟨T, u, w, rfl, nT, rfl, y1, y2⟩ := y
    obtain ⟨d1, d2, e1, e2, rfl⟩ := zipD_get e
    obtain ⟨v1, g1, p1⟩ := r1.get e1
    obtain ⟨v2, g2, p2⟩ := r2.get e2
    rw [y1 vs (Same.seqT s h1)] at g1
    rw [y2 ws (s.seq h2)] at g2
    cases g1
    cases g2
    have x2 := Ext.new (o := .tup [u, w]) sg nT
    exact ⟨_, x2, .tup (.inl (.inl upd_same)) (.cons ((p1.mono s0).mono x2.gg) (.cons ((p2.mono s0).mono x2.gg) .nil))⟩
section
variable {X : Cx} {e e2 : Expr} {me me2 : EM} {p pos : Pos}
def iZpTL (me me2 : EM) : En → Option (List D) := fun env => (me env).bind fun t => (me2 env).bind fun u => t.ptup?.bind fun xs => u.fzl?.map fun ys => zipD xs ys
theorem pim_zipTL {elts : List Expr} {kk : Nat} {tpos : Pos} (hg : Gl X "zip") (hm : X.mg "zip" = none) (he : PM X e me) (he2 : PM X e2 me2) (hs : starEach [e, e2] X.env = (false, eval e X.env) :: starEach [e2] X.env := by rfl)
    (hs2 : starEach [e2] X.env = (false, eval e2 X.env) :: starEach [] X.env := by rfl) (hpl : (backTo pos (starEach [e2] X.env)).any (·.1) = false := by rfl) :
    PIM X (.Tuple elts kk tpos) (.Call (.Name "zip" p) [e, e2] [] pos) true (iZpTL me me2) := by
  refine PI_imp (pi_zipTL hg hm (pam_cons he (pam_cons he2 pam_nil hs2) hs) hs hpl) fun σ H R h => ?_
  obtain ⟨G, env, F, rel, ds, e1, q⟩ := h
  simp only [iZpTL, Option.bind_eq_some_iff, Option.map_eq_some_iff] at e1
  obtain ⟨t, e2, u, e3, xs, e5, ys, e6, rfl⟩ := e1
  refine ⟨G, env, F, rel, [t, u], by simp [aCons, aNil, e2, e3], fun vs H' G' x r => ?_⟩
  obtain ⟨v, w, F', F2, rfl, h, h'⟩ := r.two
  obtain ⟨a, vs, rfl, h1, p1⟩ := h.ptup e5
  obtain ⟨b, ws, rfl, h2, p2⟩ := h'.fzl e6
  exact ⟨a, b, vs, ws, rfl, Same.seqT x.gh h1, x.gh.seq h2, q _ H' G' x (wk_zipTL h1 h2 p1 p2)⟩
/-- both ways: the first that does -/
def iOr (m m' : En → Option (List D)) : En → Option (List D) := fun env => match m env with
  | some ds => some ds
  | none => m' env
theorem pim_or {tg iter : Expr} {fz : Bool} {m m' : En → Option (List D)} (h : PIM X tg iter fz m) (h' : PIM X tg iter fz m') : PIM X tg iter fz (iOr m m') := by
  refine ⟨fun pins s σ H R I q => ?_⟩
  obtain ⟨G, env, F, rel, ds, e1, q⟩ := q
  simp only [iOr] at e1
  split at e1
  · rename_i ds' e2
    cases e1
    exact h.run pins s σ H R I ⟨G, env, F, rel, _, e2, q⟩
  · exact h'.run pins s σ H R I ⟨G, env, F, rel, _, e1, q⟩
def iZpM (me me2 : EM) : En → Option (List D) := iOr (iZp me me2) (iZpTL me me2)
theorem pim_zipM {elts : List Expr} {kk : Nat} {tpos : Pos} (hg : Gl X "zip") (hm : X.mg "zip" = none) (he : PM X e me) (he2 : PM X e2 me2) (hs : starEach [e, e2] X.env = (false, eval e X.env) :: starEach [e2] X.env := by rfl)
    (hs2 : starEach [e2] X.env = (false, eval e2 X.env) :: starEach [] X.env := by rfl) (hpl : (backTo pos (starEach [e2] X.env)).any (·.1) = false := by rfl) :
    PIM X (.Tuple elts kk tpos) (.Call (.Name "zip" p) [e, e2] [] pos) true (iZpM me me2) := pim_or (pim_zip hg hm he he2 hs hs2 hpl) (pim_zipTL hg hm he he2 hs hs2 hpl)
end
end M
namespace M
open PySem PySem.Spec PyProof.Rows L2

abbrev XM := En → Option En
abbrev XB := En → Bool
section
variable {X : Cx} {st : Stmt} {rest sts : List Stmt} {cls : Value} {m m' : XM} {mb : XB} {ma : SM} {e : Expr} {pos : Pos}
end
section
variable {X : Cx} {k np : Nat} {f : Addr} {fd : FuncData} {ps : List Str} {cls : Value} {fx : List T → Bool} {x : Str} {e : Expr} {es : List Expr} {ms : En → Option (List T)} {p pos : Pos}
end
end M
namespace M
open PySem PySem.Spec PyProof.Rows L2

/-- a class of exceptions of the program's -/
structure ExC (K : PySem.W.Frag) (C : Addr) : Prop where
  hcl : (PySem.W.clsIn K C).isSome = true
  hga : PySem.W.findIn K (.ref C) "__getattribute__" = some (some (.builtin "BaseException.__getattribute__"))
  hgt : PySem.W.findIn K (.ref C) "__getattr__" = some none
  hsub : PySem.W.subIn K (.ref C) (.type "BaseException") = some true
  ha : PySem.W.findIn K (.ref C) "__class__" = some (some (.builtin "object.__class__"))
  hn : PySem.W.specialIn K (.builtin "object.__class__") "__get__" = some (some (.builtin "getset_descriptor.__get__"))
  htk : PySem.W.takesIn K (.builtin "object.__class__") = some true
  hm : PySem.W.mroIn K C (.type "object") = some true
/-- the exception at a is told of by the context -/
structure Caught (X : Cx) (a C : Addr) : Prop where
  ex : ∃ oe : Obj, (a, oe) ∈ X.pn ∧ oe.cls = .ref C ∧ oe.dict = none ∧ ∃ vs, oe.data = .fields vs
section
variable {X : Cx} {a C : Addr} {y : Str} {p p1 p2 pos : Pos} {b : Bool}
end
section
variable {X : Cx} {a : Addr} {e1 e2 e3 e4 e5 e6 e7 e8 : Expr} {b1 b2 b3 b4 b5 b6 b7 b8 : Bool} {q1 q2 q3 q4 q5 q6 q7 q8 q9 q10 q11 pos' : Pos}
end
end M
namespace M
open PySem PySem.Spec PyProof.Rows L2 L2H

section
variable {X : Cx} {k : Nat} {f : Addr} {fd : FuncData} {N ps : List Str} {x y qual : Str} {st : Stmt} {q pos p1 : Pos} {e : Expr} {es : List Expr} {t : TA} {tb : TS} {pn : Addr × Obj}
end
section
variable {X : Cx} {x n : Str} {c : Value} {C : Addr} {ie ik : Nat} {body suite : List Stmt} {b₀ : Stmt} {np pos pos' : Pos} {bs : List Bool} {mb : SM} {mx : XM}
end
end M
namespace M
open PySem PySem.Spec PyProof.Rows L2 L2H
section
variable {X : Cx} {k : Nat} {f : Addr} {fd : FuncData} {N : List Str} {y qual : Str} {st : Stmt} {a C : Addr} {oe : Obj} {cls : Value} {d : Option Addr} {pn : List (Addr × Obj)} {ie ik : Nat} {bs : List Bool} {q1 q2 q3 q4 q5 : Pos}
end
section
variable {X : Cx} {e tg elt : Expr} {ifs : List Expr} {scope : Scope} {cls : Value} {mb : XB} {pos : Pos}
end
end M
namespace M
open PySem PySem.Spec PyProof.Rows L2
section
variable {K : PySem.W.Frag} {G H : Hp}
theorem Rp.flatG {v : V} {d : D} (r : Rp K G v d) (hf : flatD d = true) (G' : Hp) : Rp K G' v d := by
  cases r with
  | non => exact .non
  | bl b => exact .bl b
  | int i => exact .int i
  | str y => exact .str y
  | lst _ _ => simp [flatD] at hf
  | tup _ _ => simp [flatD] at hf
  | dct _ _ => simp [flatD] at hf
theorem Rps.flat : ∀ {vs : List V} {ds : List D}, Rps K G vs ds → ds.all flatD = true → ∀ G', Rps K G' vs ds
  | _, _, .nil, _, _ => .nil
  | _, _, .cons r rs, hf, G' => by
    rw [List.all_cons, Bool.and_eq_true] at hf
    exact .cons (r.flatG hf.1 G') (Rps.flat rs hf.2 G')
end
section
variable {X : Cx} {k np : Nat} {f : Addr} {fd : FuncData} {ps : List Str} {fn : List T → Option T} {x : Str} {e : Expr} {es : List Expr} {ms : En → Option (List T)} {p pos : Pos}
end
section
variable {K : PySem.W.Frag} {G H : Hp}
end
section
variable {X : Cx} {st : Stmt} {m : SM}
end
end M
noncomputable section
open PySem PySem.Spec PyProof.Rows L2 M
def Q.law_draws_L1 : SM := sCons (sSet 5 (mOp modT (mOp addT (mOp addT (mOp addT (mOp mulT (mVar 5) (mVar 5)) (mOp mulT (mC (.int 48271)) (mVar 5))) (mVar 6)) (mC (.int 1))) (mC (.int 2305843009213693951)))) (sIf (bAnd (bOp gtT (mVar 6) (mC (.int 2))) (bOp gtT (mVar 4) (mC (.int 0)))) (sCons (sAppend (pVar 3) (mOp modT (mVar 4) (mVar 2))) (sSet 4 (mOp fdivT (mVar 4) (mVar 2)))) (sIf (bOp gtT (mVar 6) (mC (.int 2))) (sAppend (pVar 3) (mOp modT (mOp fdivT (mVar 5) (mC (.int 4096))) (mVar 2))) (sNil)))
def Q.law_draws : List T → Option T := runFn 7 (sCons (sSetF 3 (mLstF (aNil))) (sCons (sSet 4 (mOp mulT (mVar 0) (mCall intT (aCons (mOp geT (mVar 0) (mOp powT (mC (.int 10)) (mC (.int 18)))) (aNil))))) (sCons (sSet 5 (mOp modT (mVar 0) (mC (.int 2305843009213693951)))) (sCons (sFor (iRng1 (mOp addT (mVar 1) (mC (.int 3)))) (gNm 6) (Q.law_draws_L1)) (sRetV 3)))))
def Q.law_cell_at : List T → Option T := runFn 2 (sCons (sIf (bOp ltT (mVar 1) (mCall lenT (aCons (mVar 0) (aNil)))) (sRet (mOp idxT (mVar 0) (mVar 1))) (sNil)) (sRet (mC (.int 0))))
def Q.law_best_good_L1 : SM := sCons (sSet 5 (mOp mulT (mOp addT (mC (.int 1)) (mOp modT (mOp idxT (mVar 1) (mVar 4)) (mC (.int 9)))) (mOp idxT (mVar 0) (mVar 3)))) (sIf (bOp gtT (mVar 5) (mOp mulT (mOp addT (mC (.int 1)) (mOp modT (mOp idxT (mVar 1) (mVar 3)) (mC (.int 9)))) (mOp idxT (mVar 0) (mVar 4)))) (sSet 3 (mVar 4)) (sNil))
def Q.law_best_good : List T → Option T := runFn 6 (sCons (sSet 3 (mC (.int 0))) (sCons (sFor (iRng1 (mCall lenT (aCons (mVar 0) (aNil)))) (gNm 4) (Q.law_best_good_L1)) (sRet (mLc (iRng1 (mCall lenT (aCons (mVar 0) (aNil)))) [4] (gNm 4) (bYes) (mOp mulT (mVar 2) (mCall intT (aCons (mOp eqT (mVar 4) (mVar 3)) (aNil))))))))
def Q.law_a_book_L1 : SM := sCons (sSet 10 (mCall (callT Q.law_draws) (aCons (mOp addT (mCall (callT Q.law_cell_at) (aCons (mVar 0) (aCons (mOp addT (mVar 1) (mC (.int 1))) (aNil)))) (mOp mulT (mVar 9) (mOp addT (mOp idxT (mVar 3) (mC (.int 6))) (mC (.int 1))))) (aCons (mC (.int 14)) (aCons (mOp powT (mC (.int 10)) (mC (.int 9))) (aNil)))))) (sCons (sSet 11 (mLc (iSeqB (mSlice (mVar 10) (oNone) (oSome (mVar 4)))) [15] (gNm 15) (bYes) (mOp addT (mC (.int 1)) (mOp modT (mVar 15) (mVar 6))))) (sCons (sSet 12 (mSlice (mVar 10) (oSome (mC (.int 6))) (oSome (mOp addT (mC (.int 6)) (mVar 4))))) (sCons (sSet 13 (mLc (iSeqB (mVar 12)) [15] (gNm 15) (bYes) (mOp mulT (mOp modT (mVar 15) (mOp addT (mVar 6) (mC (.int 1)))) (mCall intT (aCons (mOp gtT (mOp modT (mVar 15) (mC (.int 5))) (mC (.int 0))) (aNil)))))) (sCons (sIf (bOp eqT (mVar 7) (mC (.int 1))) (sSet 13 (mCall (callT Q.law_best_good) (aCons (mVar 11) (aCons (mSlice (mVar 3) (oSome (mC (.int 6))) (oSome (mOp addT (mC (.int 6)) (mVar 4)))) (aCons (mOp addT (mC (.int 1)) (mOp modT (mOp idxT (mVar 10) (mC (.int 12))) (mVar 6))) (aNil)))))) (sNil)) (sCons (sIf (bOp eqT (mVar 7) (mC (.int 2))) (sSet 13 (mLc (iSeqB (mVar 11)) [16] (gNm 16) (bYes) (mOp subT (mOp addT (mVar 6) (mC (.int 1))) (mVar 16)))) (sNil)) (sCons (sIf (bOp eqT (mOp modT (mOp idxT (mVar 10) (mC (.int 13))) (mC (.int 9))) (mC (.int 0))) (sSet 13 (mLc (iSeqB (mSlice (mVar 10) (oSome (mC (.int 6))) (oSome (mOp addT (mC (.int 6)) (mVar 4))))) [15] (gNm 15) (bYes) (mOp modT (mVar 15) (mVar 6)))) (sNil)) (sCons (sSetF 13 (mLcF (iSeqB (mVar 13)) [17] (gNm 17) (bYes) (mCall minT (aCons (mOp powT (mC (.int 10)) (mC (.int 6))) (aCons (mVar 17) (aNil)))))) (sCons (sIf (bOp eqT (mCall maxT (aCons (mVar 13) (aNil))) (mC (.int 0))) (sSetIx (pVar 13) (mOp modT (mOp idxT (mVar 10) (mC (.int 12))) (mVar 4)) (mC (.int 1))) (sNil)) (sFrz 13 (sCons (sSet 14 (mTup (aCons (mCall tupleT (aCons (mVar 11) (aNil))) (aCons (mCall tupleT (aCons (mVar 13) (aNil))) (aNil))))) (sCons (sIf (bAnd (bOp neT (mVar 8) (mLst (aNil))) (bOp eqT (mOp modT (mOp fdivT (mOp idxT (mVar 10) (mC (.int 13))) (mC (.int 9))) (mC (.int 7))) (mC (.int 0)))) (sSet 14 (mTup (aCons (mOp idxT (mVar 14) (mC (.int 0))) (aCons (mOp idxT (mOp idxT (mVar 8) (mOp modT (mOp fdivT (mOp idxT (mVar 10) (mC (.int 13))) (mC (.int 63))) (mCall lenT (aCons (mVar 8) (aNil))))) (mC (.int 1))) (aNil))))) (sNil)) (sAppend (pVar 8) (mVar 14)))))))))))))
def Q.law_a_book : List T → Option T := runFn 18 (sCons (sSet 3 (mCall (callT Q.law_draws) (aCons (mCall (callT Q.law_cell_at) (aCons (mVar 0) (aCons (mVar 1) (aNil)))) (aCons (mC (.int 12)) (aCons (mOp powT (mC (.int 10)) (mC (.int 6))) (aNil)))))) (sCons (sSet 4 (mOp idxT (mLst (aCons (mOp addT (mC (.int 1)) (mOp modT (mOp idxT (mVar 3) (mC (.int 0))) (mC (.int 6)))) (aCons (mC (.int 2)) (aCons (mOp addT (mC (.int 2)) (mOp modT (mOp idxT (mVar 3) (mC (.int 0))) (mC (.int 2)))) (aNil))))) (mOp modT (mOp idxT (mVar 3) (mC (.int 1))) (mC (.int 3))))) (sCons (sSet 5 (mOp idxT (mLst (aCons (mOp addT (mC (.int 1)) (mOp modT (mOp idxT (mVar 3) (mC (.int 2))) (mVar 2))) (aCons (mOp addT (mC (.int 1)) (mOp modT (mOp idxT (mVar 3) (mC (.int 2))) (mCall minT (aCons (mVar 2) (aCons (mC (.int 4)) (aNil)))))) (aNil)))) (mOp fdivT (mOp modT (mOp idxT (mVar 3) (mC (.int 3))) (mC (.int 3))) (mC (.int 2))))) (sCons (sSet 6 (mOp idxT (mLst (aCons (mC (.int 3)) (aCons (mC (.int 9)) (aCons (mC (.int 60)) (aCons (mOp powT (mC (.int 10)) (mC (.int 6))) (aNil)))))) (mOp modT (mOp idxT (mVar 3) (mC (.int 4))) (mC (.int 4))))) (sCons (sSet 7 (mOp modT (mOp idxT (mVar 3) (mC (.int 5))) (mC (.int 5)))) (sCons (sSetF 8 (mLstF (aNil))) (sCons (sFor (iRng1 (mVar 5)) (gNm 9) (Q.law_a_book_L1)) (sRetV 8))))))))
def Q.cost_at : List T → Option T := runFn 4 (sRet (mCall sumT (aCons (mLc (iZp (mVar 0) (mVar 1)) [2, 3] (gTp (gCn (gNm 2) (gCn (gNm 3) (gNl)))) (bYes) (mOp mulT (mVar 2) (mVar 3))) (aNil))))
def Q.costs_of_L1 : SM := sAppend (pVar 1) (mLc (iSeqB (mVar 0)) [4, 5] (gTp (gCn (gNm 4) (gCn (gNm 5) (gNl)))) (bYes) (mCall (callT Q.cost_at) (aCons (mVar 2) (aCons (mVar 5) (aNil)))))
def Q.costs_of : List T → Option T := runFn 6 (sCons (sSetF 1 (mLstF (aNil))) (sCons (sFor (iSeq (mVar 0)) (gTp (gCn (gNm 2) (gCn (gNm 3) (gNl)))) (Q.costs_of_L1)) (sRetV 1)))
def Q.open_ways_L1 : SM := sAppend (pVar 2) (mLc (iSeqB (mVar 1)) [4] (gNm 4) (bYes) (mAnd (mOp neT (mVar 4) (mVar 3)) (mOp leT (mOp idxT (mOp idxT (mVar 0) (mVar 3)) (mVar 4)) (mOp idxT (mOp idxT (mVar 0) (mVar 3)) (mVar 3)))))
def Q.open_ways : List T → Option T := runFn 5 (sCons (sSet 1 (mListR1 (mCall lenT (aCons (mVar 0) (aNil))))) (sCons (sSetF 2 (mLstF (aNil))) (sCons (sFor (iSeq (mVar 1)) (gNm 3) (Q.open_ways_L1)) (sRetV 2))))
def Q.way_between_L1 : SM := sIf (bAnd (bVal (mOp idxT (mOp idxT (mVar 0) (mVar 5)) (mVar 6))) (bOp dNotInT (mVar 6) (mVar 3))) (sCons (sDPut 3 (mVar 6) (mVar 5)) (sAppend (pVar 4) (mVar 6))) (sNil)
def Q.way_between_L2 : SM := sCons (sSetPopAt 5 (pVar 4) (mC (.int 0))) (sFor (iRng1 (mCall lenT (aCons (mVar 0) (aNil)))) (gNm 6) (Q.way_between_L1))
def Q.way_between_L3 : SM := sInsert (pVar 7) (mC (.int 0)) (mOp dGetT (mVar 3) (mOp idxT (mVar 7) (mC (.int 0))))
def Q.way_between : List T → Option T := runFn 8 (sCons (sSetF 3 (mDOne (mVar 1) (mC .none))) (sCons (sSetF 4 (mLstF (aCons (mPure (mVar 1)) (aNil)))) (sCons (sWhile FUEL (bAnd (bOp neT (mVar 4) (mLst (aNil))) (bOp dNotInT (mVar 2) (mVar 3))) (Q.way_between_L2)) (sCons (sIf (bOp dNotInT (mVar 2) (mVar 3)) (sRet (mC .none)) (sNil)) (sCons (sSetF 7 (mLstF (aCons (mPure (mVar 2)) (aNil)))) (sCons (sWhile FUEL (bOp neT (mOp idxT (mVar 7) (mC (.int 0))) (mVar 1)) (Q.way_between_L3)) (sRetV 7)))))))
def Q.barring_round_L1 : SM := sIf (bOp ltT (mOp idxT (mOp idxT (mVar 0) (mVar 2)) (mVar 3)) (mOp idxT (mOp idxT (mVar 0) (mVar 2)) (mVar 2))) (sCons (sSet 4 (mCall (callT Q.way_between) (aCons (mVar 1) (aCons (mVar 3) (aCons (mVar 2) (aNil)))))) (sIf (bOp notnT (mVar 4) (mC .none)) (sRetV 4) (sNil))) (sNil)
def Q.barring_round_L2 : SM := sFor (iRng1 (mCall lenT (aCons (mVar 0) (aNil)))) (gNm 3) (Q.barring_round_L1)
def Q.barring_round : List T → Option T := runFn 5 (sCons (sFor (iRng1 (mCall lenT (aCons (mVar 0) (aNil)))) (gNm 2) (Q.barring_round_L2)) (sRet (mC .none)))
def Q.top_class_L1 : SM := sCons (sSet 3 (mLc (iSeqB (mVar 1)) [4] (gNm 4) (bOp notnT (mCall (callT Q.way_between) (aCons (mVar 0) (aCons (mVar 4) (aCons (mVar 2) (aNil))))) (mC .none)) (mVar 4))) (sIf (bVal (mCall allT (aCons (mLc (iSeqB (mVar 3)) [4] (gNm 4) (bYes) (mOp notnT (mCall (callT Q.way_between) (aCons (mVar 0) (aCons (mVar 2) (aCons (mVar 4) (aNil))))) (mC .none))) (aNil)))) (sRetV 3) (sNil))
def Q.top_class : List T → Option T := runFn 5 (sCons (sFor (iSeq (mVar 1)) (gNm 2) (Q.top_class_L1)) (sRet (mLst (aNil))))
def Q.divisor_L1 : SM := sPar 0 1 (aCons (mVar 1) (aCons (mOp modT (mVar 0) (mVar 1)) (aNil)))
def Q.divisor : List T → Option T := runFn 2 (sCons (sSet 0 (mCall absT (aCons (mVar 0) (aNil)))) (sCons (sSet 1 (mCall absT (aCons (mVar 1) (aNil)))) (sCons (sWhile FUEL (bOp gtT (mVar 1) (mC (.int 0))) (Q.divisor_L1)) (sRetV 0))))
def Q.fraction : List T → Option T := runFn 3 (sCons (sSet 2 (mCall (callT Q.divisor) (aCons (mVar 0) (aCons (mVar 1) (aNil))))) (sCons (sIf (bOp ltT (mVar 1) (mC (.int 0))) (sSet 2 (mOp subT (mC (.int 0)) (mVar 2))) (sNil)) (sRet (mTup (aCons (mOp fdivT (mVar 0) (mVar 2)) (aCons (mOp fdivT (mVar 1) (mVar 2)) (aNil)))))))
def Q.plus : List T → Option T := runFn 2 (sRet (mCall (callT Q.fraction) (aCons (mOp addT (mOp mulT (mOp idxT (mVar 0) (mC (.int 0))) (mOp idxT (mVar 1) (mC (.int 1)))) (mOp mulT (mOp idxT (mVar 1) (mC (.int 0))) (mOp idxT (mVar 0) (mC (.int 1))))) (aCons (mOp mulT (mOp idxT (mVar 0) (mC (.int 1))) (mOp idxT (mVar 1) (mC (.int 1)))) (aNil)))))
def Q.times : List T → Option T := runFn 2 (sRet (mCall (callT Q.fraction) (aCons (mOp mulT (mOp idxT (mVar 0) (mC (.int 0))) (mVar 1)) (aCons (mOp idxT (mVar 0) (mC (.int 1))) (aNil)))))
def Q.is_less : List T → Option T := runFn 2 (sRet (mOp ltT (mOp mulT (mOp idxT (mVar 0) (mC (.int 0))) (mOp idxT (mVar 1) (mC (.int 1)))) (mOp mulT (mOp idxT (mVar 1) (mC (.int 0))) (mOp idxT (mVar 0) (mC (.int 1))))))
def Q.lesser : List T → Option T := runFn 2 (sCons (sIf (bVal (mCall (callT Q.is_less) (aCons (mVar 1) (aCons (mVar 0) (aNil))))) (sRetV 1) (sNil)) (sRetV 0))
def Q.greater : List T → Option T := runFn 2 (sCons (sIf (bVal (mCall (callT Q.is_less) (aCons (mVar 0) (aCons (mVar 1) (aNil))))) (sRetV 1) (sNil)) (sRetV 0))
def Q.over : List T → Option T := runFn 2 (sRet (mCall (callT Q.fraction) (aCons (mOp idxT (mVar 0) (mC (.int 0))) (aCons (mOp mulT (mOp idxT (mVar 0) (mC (.int 1))) (mVar 1)) (aNil)))))
def Q.minus : List T → Option T := runFn 2 (sRet (mCall (callT Q.fraction) (aCons (mOp subT (mOp mulT (mOp idxT (mVar 0) (mC (.int 0))) (mOp idxT (mVar 1) (mC (.int 1)))) (mOp mulT (mOp idxT (mVar 1) (mC (.int 0))) (mOp idxT (mVar 0) (mC (.int 1))))) (aCons (mOp mulT (mOp idxT (mVar 0) (mC (.int 1))) (mOp idxT (mVar 1) (mC (.int 1)))) (aNil)))))
def Q.any_wish_L1 : SM := sCons (sSet 10 (mCall (callT Q.plus) (aCons (mOp dGetT (mVar 2) (mVar 8)) (aCons (mCall (callT Q.times) (aCons (mOp dGetT (mVar 3) (mVar 8)) (aCons (mOp subT (mOp idxT (mOp idxT (mVar 0) (mVar 8)) (mVar 9)) (mOp idxT (mOp idxT (mVar 0) (mVar 8)) (mVar 8))) (aNil)))) (aNil))))) (sSet 6 (mCall (callT Q.lesser) (aCons (mVar 6) (aCons (mCall (callT Q.lesser) (aCons (mVar 10) (aCons (mOp dGetT (mVar 2) (mVar 8)) (aNil)))) (aNil)))))
def Q.any_wish_L2 : SM := sFor (iSeq (mVar 5)) (gNm 9) (Q.any_wish_L1)
def Q.any_wish_L3 : SM := sSet 7 (mCall (callT Q.greater) (aCons (mVar 7) (aCons (mCall (callT Q.over) (aCons (mCall (callT Q.minus) (aCons (mOp dGetT (mVar 2) (mVar 8)) (aCons (mVar 6) (aNil)))) (aCons (mOp subT (mOp idxT (mOp idxT (mVar 0) (mVar 9)) (mVar 8)) (mOp idxT (mOp idxT (mVar 0) (mVar 9)) (mVar 9))) (aNil)))) (aNil))))
def Q.any_wish_L4 : SM := sFor (iSeq (mVar 5)) (gNm 9) (Q.any_wish_L3)
def Q.any_wish_L5 : SM := sCons (sDPut 2 (mVar 9) (mVar 6)) (sDPut 3 (mVar 9) (mVar 7))
def Q.any_wish_L6 : SM := sCons (sSet 5 (mCall (callT Q.top_class) (aCons (mVar 1) (aCons (mVar 4) (aNil))))) (sCons (sSet 6 (mTup (aCons (mC (.int 1)) (aCons (mC (.int 1)) (aNil))))) (sCons (sSet 7 (mTup (aCons (mC (.int 1)) (aCons (mC (.int 1)) (aNil))))) (sCons (sForW 2 [8, 9, 10] (gNm 8) (Q.any_wish_L2)) (sCons (sForW 2 [8, 9, 10] (gNm 8) (Q.any_wish_L4)) (sCons (sSet 4 (mLc (iSeqB (mVar 4)) [9] (gNm 9) (bOp notInT (mVar 9) (mVar 5)) (mVar 9))) (sFor (iSeq (mVar 5)) (gNm 9) (Q.any_wish_L5)))))))
def Q.any_wish : List T → Option T := runFn 12 (sCons (sSetF 2 (mDNew)) (sCons (sSetF 3 (mDNew)) (sCons (sSet 4 (mListR1 (mCall lenT (aCons (mVar 0) (aNil))))) (sCons (sWhile FUEL (bOp neT (mVar 4) (mLst (aNil))) (Q.any_wish_L6)) (sCons (sSet 11 (mListR1 (mCall lenT (aCons (mVar 0) (aNil))))) (sRet (mTup (aCons (mLc (iSeqB (mVar 11)) [9] (gNm 9) (bYes) (mOp dGetT (mVar 2) (mVar 9))) (aCons (mLc (iSeqB (mVar 11)) [9] (gNm 9) (bYes) (mOp dGetT (mVar 3) (mVar 9))) (aNil))))))))))
def Q.told_any : List T → Option T := runFn 3 (sCons (sSet 1 (mCall (callT Q.open_ways) (aCons (mVar 0) (aNil)))) (sCons (sSet 2 (mCall (callT Q.barring_round) (aCons (mVar 0) (aCons (mVar 1) (aNil))))) (sCons (sIf (bOp notnT (mVar 2) (mC .none)) (sRet (mTup (aCons (mC (.str "round")) (aCons (mVar 2) (aNil))))) (sNil)) (sRet (mTup (aCons (mC (.str "wish")) (aCons (mCall (callT Q.any_wish) (aCons (mVar 0) (aCons (mVar 1) (aNil)))) (aNil))))))))
def Q.step_worth : List T → Option T := runIO 5 [2] (sCons (sIf (bOp eqT (mVar 0) (mC (.str "even"))) (sRetIO [2] (mCall (callT Q.plus) (aCons (mOp idxT (mVar 2) (mVar 3)) (aCons (mTup (aCons (mOp subT (mOp idxT (mOp idxT (mVar 1) (mVar 3)) (mVar 4)) (mOp idxT (mOp idxT (mVar 1) (mVar 3)) (mVar 3))) (aCons (mC (.int 1)) (aNil)))) (aNil))))) (sNil)) (sRetIO [2] (mCall (callT Q.over) (aCons (mCall (callT Q.times) (aCons (mOp idxT (mVar 2) (mVar 3)) (aCons (mOp idxT (mOp idxT (mVar 1) (mVar 3)) (mVar 4)) (aNil)))) (aCons (mOp idxT (mOp idxT (mVar 1) (mVar 3)) (mVar 3)) (aNil))))))
def Q.lowered_L1 : SM := sCons (sCallIO (some 7) Q.step_worth [.ex (mVar 0), .ex (mVar 1), .sl 2, .ex (mVar 5), .ex (mVar 6)]) (sIf (bVal (mCall (callT Q.is_less) (aCons (mVar 7) (aCons (mOp idxT (mVar 2) (mVar 6)) (aNil))))) (sCons (sSetIx (pVar 2) (mVar 6) (mVar 7)) (sCons (sDPut 3 (mVar 6) (mVar 5)) (sSet 4 (mVar 6)))) (sNil))
def Q.lowered_L2 : SM := sFor (iRng1 (mCall lenT (aCons (mVar 1) (aNil)))) (gNm 6) (Q.lowered_L1)
def Q.lowered : List T → Option T := runIO 8 [2, 3] (sCons (sSet 4 (mC .none)) (sCons (sFor (iRng1 (mCall lenT (aCons (mVar 1) (aNil)))) (gNm 5) (Q.lowered_L2)) (sRetIO [2, 3] (mVar 4))))
def Q.round_back_L1 : SM := sSet 3 (mOp dGetT (mVar 0) (mVar 3))
def Q.round_back_L2 : SM := sInsert (pVar 5) (mC (.int 0)) (mOp dGetT (mVar 0) (mOp idxT (mVar 5) (mC (.int 0))))
def Q.round_back : List T → Option T := runFn 6 (sCons (sSet 3 (mVar 1)) (sCons (sFor (iRng1 (mVar 2)) (gNm 4) (Q.round_back_L1)) (sCons (sSetF 5 (mLstF (aCons (mPure (mVar 3)) (aNil)))) (sCons (sWhile FUEL (bOp neT (mOp dGetT (mVar 0) (mOp idxT (mVar 5) (mC (.int 0)))) (mVar 3)) (Q.round_back_L2)) (sRetV 5)))))
def Q.told_by_L1 : SM := sCons (sCallIO (some 7) Q.lowered [.ex (mVar 1), .ex (mVar 2), .sl 4, .sl 5]) (sIf (bOp isnT (mVar 7) (mC .none)) (sCons (sSet 8 (mOp mulT (mLst (aCons (mTup (aCons (mC (.int 1)) (aCons (mC (.int 1)) (aNil)))) (aNil))) (mVar 3))) (sCons (sIf (bOp eqT (mVar 1) (mC (.str "scaled"))) (sSet 8 (mLc (iRng1 (mVar 3)) [9] (gNm 9) (bYes) (mCall (callT Q.over) (aCons (mOp idxT (mVar 4) (mVar 9)) (aCons (mOp idxT (mOp idxT (mVar 2) (mVar 9)) (mVar 9)) (aNil)))))) (sNil)) (sFrz 4 (sRet (mTup (aCons (mC (.str "wish")) (aCons (mTup (aCons (mVar 4) (aCons (mVar 8) (aNil)))) (aNil)))))))) (sNil))
def Q.told_by : List T → Option T := runFn 10 (sCons (sSet 2 (mCall (callT Q.costs_of) (aCons (mVar 0) (aNil)))) (sCons (sIf (bOp eqT (mVar 1) (mC (.str "any"))) (sRet (mCall (callT Q.told_any) (aCons (mVar 2) (aNil)))) (sNil)) (sCons (sSet 3 (mCall lenT (aCons (mVar 0) (aNil)))) (sCons (sSetF 4 (mRepF (mLst (aCons (mTup (aCons (mC (.int 1)) (aCons (mC (.int 1)) (aNil)))) (aNil))) (mVar 3))) (sCons (sSetF 5 (mDNew)) (sCons (sFor (iRng1 (mVar 3)) (gNm 6) (Q.told_by_L1)) (sFrz 5 (sRet (mTup (aCons (mC (.str "round")) (aCons (mCall (callT Q.round_back) (aCons (mVar 5) (aCons (mVar 7) (aCons (mVar 3) (aNil))))) (aNil))))))))))))
def Q.has_wish : List T → Option T := runFn 2 (sRet (mOp eqT (mOp idxT (mCall (callT Q.told_by) (aCons (mVar 0) (aCons (mVar 1) (aNil)))) (mC (.int 0))) (mC (.str "wish"))))
def Q.walks_L1 : SM := sIf (bAnd (bOp neT (mVar 7) (mVar 5)) (bOp notnT (mOp idxT (mOp idxT (mVar 2) (mNeg (mC (.int 1)))) (mVar 7)) (mC .none))) (sAppend (pVar 6) (mOp subT (mOp addT (mOp idxT (mOp idxT (mVar 2) (mNeg (mC (.int 1)))) (mVar 7)) (mOp idxT (mOp idxT (mVar 0) (mVar 7)) (mVar 5))) (mOp idxT (mOp idxT (mVar 0) (mVar 7)) (mVar 7)))) (sNil)
def Q.walks_L2 : SM := sCons (sSetF 6 (mLstF (aNil))) (sCons (sFor (iRng1 (mVar 1)) (gNm 7) (Q.walks_L1)) (sFrz 6 (sAppend (pVar 4) (mIf (bOp neT (mVar 6) (mLst (aNil))) (mCall minT (aCons (mVar 6) (aNil))) (mC .none)))))
def Q.walks_L3 : SM := sCons (sSetF 4 (mLstF (aNil))) (sCons (sFor (iRng1 (mVar 1)) (gNm 5) (Q.walks_L2)) (sFrz 4 (sAppend (pVar 2) (mVar 4))))
def Q.walks : List T → Option T := runFn 8 (sCons (sSet 1 (mCall lenT (aCons (mVar 0) (aNil)))) (sCons (sSetF 2 (mLstF (aCons (mPure (mOp addT (mLst (aCons (mC (.int 0)) (aNil))) (mOp mulT (mLst (aCons (mC .none) (aNil))) (mOp subT (mVar 1) (mC (.int 1)))))) (aNil)))) (sCons (sFor (iRng1 (mVar 1)) (gNm 3) (Q.walks_L3)) (sRetV 2))))
def Q.least_mean_L1 : SM := sIf (bOp notnT (mOp idxT (mOp idxT (mVar 2) (mVar 6)) (mVar 4)) (mC .none)) (sCons (sSet 7 (mCall (callT Q.fraction) (aCons (mOp subT (mOp idxT (mOp idxT (mVar 2) (mVar 1)) (mVar 4)) (mOp idxT (mOp idxT (mVar 2) (mVar 6)) (mVar 4))) (aCons (mOp subT (mVar 1) (mVar 6)) (aNil))))) (sIf (bOr (bOp isnT (mVar 5) (mC .none)) (bVal (mCall (callT Q.is_less) (aCons (mVar 5) (aCons (mVar 7) (aNil)))))) (sSet 5 (mVar 7)) (sNil))) (sNil)
def Q.least_mean_L2 : SM := sIf (bOp notnT (mOp idxT (mOp idxT (mVar 2) (mVar 1)) (mVar 4)) (mC .none)) (sCons (sSet 5 (mC .none)) (sCons (sFor (iRng1 (mVar 1)) (gNm 6) (Q.least_mean_L1)) (sIf (bOr (bOp isnT (mVar 3) (mC .none)) (bVal (mCall (callT Q.is_less) (aCons (mVar 5) (aCons (mVar 3) (aNil)))))) (sSet 3 (mVar 5)) (sNil)))) (sNil)
def Q.least_mean : List T → Option T := runFn 8 (sCons (sSet 1 (mCall lenT (aCons (mVar 0) (aNil)))) (sCons (sSet 2 (mCall (callT Q.walks) (aCons (mVar 0) (aNil)))) (sCons (sSet 3 (mC .none)) (sCons (sFor (iRng1 (mVar 1)) (gNm 4) (Q.least_mean_L2)) (sRetV 3)))))
def Q.lifted_L1 : SM := sCons (sSet 7 (mCall (callT Q.minus) (aCons (mCall (callT Q.plus) (aCons (mOp idxT (mVar 3) (mVar 5)) (aCons (mTup (aCons (mOp subT (mOp idxT (mOp idxT (mVar 0) (mVar 5)) (mVar 6)) (mOp idxT (mOp idxT (mVar 0) (mVar 5)) (mVar 5))) (aCons (mC (.int 1)) (aNil)))) (aNil)))) (aCons (mVar 1) (aNil))))) (sIf (bAnd (bOp neT (mVar 5) (mVar 6)) (bVal (mCall (callT Q.is_less) (aCons (mVar 7) (aCons (mOp idxT (mVar 3) (mVar 6)) (aNil)))))) (sSetIx (pVar 3) (mVar 6) (mVar 7)) (sNil))
def Q.lifted_L2 : SM := sFor (iRng1 (mVar 2)) (gNm 6) (Q.lifted_L1)
def Q.lifted_L3 : SM := sFor (iRng1 (mVar 2)) (gNm 5) (Q.lifted_L2)
def Q.lifted : List T → Option T := runFn 8 (sCons (sSet 2 (mCall lenT (aCons (mVar 0) (aNil)))) (sCons (sSetF 3 (mRepF (mLst (aCons (mTup (aCons (mC (.int 0)) (aCons (mC (.int 1)) (aNil)))) (aNil))) (mVar 2))) (sCons (sFor (iRng1 (mVar 2)) (gNm 4) (Q.lifted_L3)) (sRetV 3))))
def Q.dearest_L1 : SM := sCons (sSet 8 (mCall (callT Q.minus) (aCons (mCall (callT Q.plus) (aCons (mOp idxT (mVar 3) (mVar 5)) (aCons (mTup (aCons (mOp subT (mOp idxT (mOp idxT (mVar 1) (mVar 5)) (mVar 7)) (mOp idxT (mOp idxT (mVar 1) (mVar 5)) (mVar 5))) (aCons (mC (.int 1)) (aNil)))) (aNil)))) (aCons (mVar 2) (aNil))))) (sAppend (pVar 6) (mAnd (mOp neT (mVar 5) (mVar 7)) (mOp eqT (mVar 8) (mOp idxT (mVar 3) (mVar 7)))))
def Q.dearest_L2 : SM := sCons (sSetF 6 (mLstF (aNil))) (sCons (sFor (iRng1 (mCall lenT (aCons (mVar 0) (aNil)))) (gNm 7) (Q.dearest_L1)) (sFrz 6 (sAppend (pVar 4) (mVar 6))))
def Q.dearest_L3 : SM := sIf (bVal (mOp idxT (mOp idxT (mVar 4) (mVar 5)) (mVar 7))) (sCons (sSet 9 (mCall (callT Q.way_between) (aCons (mVar 4) (aCons (mVar 7) (aCons (mVar 5) (aNil)))))) (sIf (bOp notnT (mVar 9) (mC .none)) (sRet (mTup (aCons (mCall (callT Q.over) (aCons (mVar 2) (aCons (mOp subT (mC (.int 0)) (mC (.int 1))) (aNil)))) (aCons (mVar 9) (aCons (mVar 3) (aNil)))))) (sNil))) (sNil)
def Q.dearest_L4 : SM := sFor (iRng1 (mCall lenT (aCons (mVar 0) (aNil)))) (gNm 7) (Q.dearest_L3)
def Q.dearest : List T → Option T := runFn 10 (sCons (sIf (bOp ltT (mCall lenT (aCons (mVar 0) (aNil))) (mC (.int 2))) (sRet (mC .none)) (sNil)) (sCons (sSet 1 (mCall (callT Q.costs_of) (aCons (mVar 0) (aNil)))) (sCons (sSet 2 (mCall (callT Q.least_mean) (aCons (mVar 1) (aNil)))) (sCons (sSet 3 (mCall (callT Q.lifted) (aCons (mVar 1) (aCons (mVar 2) (aNil))))) (sCons (sSetF 4 (mLstF (aNil))) (sCons (sFor (iRng1 (mCall lenT (aCons (mVar 0) (aNil)))) (gNm 5) (Q.dearest_L2)) (sFrz 4 (sCons (sFor (iRng1 (mCall lenT (aCons (mVar 0) (aNil)))) (gNm 5) (Q.dearest_L4)) (sRet (mC .none))))))))))
def Q.is_buying : List T → Option T := runFn 5 (sCons (sAsg (gTp (gCn (gNm 1) (gCn (gNm 2) (gNl)))) (mVar 0)) (sCons (sIf (bOr (bNot (bVal (mChain leT leT (mC (.int 1)) (mCall lenT (aCons (mVar 1) (aNil))) (mC (.int 6))))) (bOp neT (mCall lenT (aCons (mVar 1) (aNil))) (mCall lenT (aCons (mVar 2) (aNil))))) (sRet (mC (.bool false))) (sNil)) (sCons (sIf (bNot (bVal (mCall allT (aCons (mLc (iSeqB (mVar 1)) [3] (gNm 3) (bYes) (mChain leT leT (mC (.int 1)) (mVar 3) (mC (.int 1000000)))) (aNil))))) (sRet (mC (.bool false))) (sNil)) (sRet (mAnd (mCall allT (aCons (mLc (iSeqB (mVar 2)) [4] (gNm 4) (bYes) (mChain leT leT (mC (.int 0)) (mVar 4) (mC (.int 1000000)))) (aNil))) (mOp gtT (mCall maxT (aCons (mVar 2) (aNil))) (mC (.int 0))))))))
def Q.need_buying : List T → Option T := runFn 2 (sIf (bOr (bNot (bVal (mCall (callT Q.is_buying) (aCons (mVar 1) (aNil))))) (bOp neT (mCall lenT (aCons (mOp idxT (mVar 1) (mC (.int 0))) (aNil))) (mCall lenT (aCons (mOp idxT (mOp idxT (mVar 0) (mC (.int 0))) (mC (.int 0))) (aNil))))) (sNever) (sNil))
def Q.may_come : List T → Option T := runFn 3 (sCons (sExpr (mCall (callT Q.need_buying) (aCons (mVar 0) (aCons (mVar 2) (aNil))))) (sRet (mCall (callT Q.has_wish) (aCons (mOp addT (mVar 0) (mLst (aCons (mVar 2) (aNil)))) (aCons (mVar 1) (aNil))))))
def Q.k32_law_L1 : SM := sCons (sSet 8 (mLc (iZpM (mVar 7) (mVar 4)) [11, 14] (gTp (gCn (gNm 11) (gCn (gNm 14) (gNl)))) (bYes) (mOp addT (mVar 11) (mVar 14)))) (sAppend (pVar 5) (mTup (aCons (mVar 6) (aCons (mCall tupleT (aCons (mVar 8) (aNil))) (aNil)))))
def Q.k32_law : List T → Option T := runFn 16 (sCons (sSet 1 (mCall (callT Q.law_a_book) (aCons (mVar 0) (aCons (mC (.int 0)) (aCons (mC (.int 11)) (aNil)))))) (sCons (sSet 2 (mCall (callT Q.law_draws) (aCons (mCall (callT Q.law_cell_at) (aCons (mVar 0) (aCons (mC (.int 2)) (aNil)))) (aCons (mC (.int 9)) (aCons (mC (.int 1000)) (aNil)))))) (sCons (sSet 3 (mCall maxT (aCons (mLc (iSeqB (mVar 1)) [6, 7] (gTp (gCn (gNm 6) (gCn (gNm 7) (gNl)))) (bYes) (mCall maxT (aCons (mVar 7) (aNil)))) (aNil)))) (sCons (sSet 4 (mLc (iSeqB (mSlice (mVar 2) (oNone) (oSome (mC (.int 6))))) [13] (gNm 13) (bYes) (mOp mulT (mOp modT (mVar 13) (mC (.int 50))) (mCall intT (aCons (mOp leT (mOp addT (mVar 3) (mC (.int 50))) (mOp powT (mC (.int 10)) (mC (.int 6)))) (aNil)))))) (sCons (sSetF 5 (mLstF (aNil))) (sCons (sFor (iSeq (mVar 1)) (gTp (gCn (gNm 6) (gCn (gNm 7) (gNl)))) (Q.k32_law_L1)) (sFrz 5 (sCons (sIf (bOp neT (mCall (callT Q.has_wish) (aCons (mVar 5) (aCons (mC (.str "even")) (aNil)))) (mCall (callT Q.has_wish) (aCons (mVar 1) (aCons (mC (.str "even")) (aNil))))) (sRet (mC (.bool false))) (sNil)) (sCons (sIf (bAnd (bOp gtT (mCall lenT (aCons (mVar 1) (aNil))) (mC (.int 1))) (bOp neT (mOp idxT (mCall (callT Q.dearest) (aCons (mVar 5) (aNil))) (mC (.int 0))) (mOp idxT (mCall (callT Q.dearest) (aCons (mVar 1) (aNil))) (mC (.int 0))))) (sRet (mC (.bool false))) (sNil)) (sCons (sSet 9 (mOp modT (mOp idxT (mVar 2) (mC (.int 6))) (mCall lenT (aCons (mVar 1) (aNil))))) (sCons (sAsg (gTp (gCn (gNm 6) (gCn (gNm 7) (gNl)))) (mOp idxT (mVar 1) (mVar 9))) (sCons (sSet 10 (mOp addT (mC (.int 1)) (mOp modT (mOp idxT (mVar 2) (mC (.int 7))) (mCall maxT (aCons (mC (.int 1)) (aCons (mCall minT (aCons (mC (.int 60)) (aCons (mOp fdivT (mOp powT (mC (.int 10)) (mC (.int 6))) (mCall maxT (aCons (mVar 7) (aNil)))) (aNil)))) (aNil))))))) (sCons (sSet 11 (mTup (aCons (mVar 6) (aCons (mCall tupleT (aCons (mLc (iSeqB (mVar 7)) [15] (gNm 15) (bYes) (mOp mulT (mVar 15) (mVar 10))) (aNil))) (aNil))))) (sCons (sSet 12 (mCall (callT Q.has_wish) (aCons (mVar 1) (aCons (mC (.str "scaled")) (aNil))))) (sCons (sIf (bOp neT (mCall (callT Q.has_wish) (aCons (mOp addT (mOp addT (mSlice (mVar 1) (oNone) (oSome (mVar 9))) (mLst (aCons (mVar 11) (aNil)))) (mSlice (mVar 1) (oSome (mOp addT (mVar 9) (mC (.int 1)))) (oNone))) (aCons (mC (.str "scaled")) (aNil)))) (mVar 12)) (sRet (mC (.bool false))) (sNil)) (sCons (sIf (bOp neT (mCall (callT Q.may_come) (aCons (mVar 1) (aCons (mC (.str "scaled")) (aCons (mVar 11) (aNil))))) (mVar 12)) (sRet (mC (.bool false))) (sNil)) (sRet (mOp eqT (mCall (callT Q.may_come) (aCons (mVar 1) (aCons (mC (.str "even")) (aCons (mOp idxT (mVar 1) (mVar 9)) (aNil))))) (mCall (callT Q.has_wish) (aCons (mVar 1) (aCons (mC (.str "even")) (aNil))))))))))))))))))))))
end
namespace N
open PySem PySem.Spec PyProof.Rows L2 M

def op2 (f : T → T → Option T) (a b : D) : Option D := (f (.p a) (.p b)).bind T.pure?
def xop (f : T → T → Option T) (p q : Option D) : Option D := p.bind fun a => q.bind fun b => op2 f a b
def xf1 (f : List T → Option T) (p : Option D) : Option D := p.bind fun a => (f [.p a]).bind T.pure?
def xf2 (f : List T → Option T) (p q : Option D) : Option D := p.bind fun a => q.bind fun b => (f [.p a, .p b]).bind T.pure?
def xseq : List (Option D) → Option (List D)
  | [] => some []
  | p :: r => p.bind fun a => (xseq r).map fun as => a :: as
def xtup (l : List (Option D)) : Option D := (xseq l).map PyData.tuple
def xlst (l : List (Option D)) : Option D := (xseq l).map PyData.list
def boolD? : D → Option Bool
  | .bool b => some b
  | _ => none
def intD? : D → Option Int
  | .int i => some i
  | _ => none
def seqD? : D → Option (List D)
  | .list ds => some ds
  | .tuple ds => some ds
  | _ => none
def xbool (p : Option D) : Option Bool := p.bind boolD?
def xif {R : Type} (c : Option Bool) (a b : Option R) : Option R := c.bind fun x => if x then a else b
def xand (a b : Option Bool) : Option Bool := xif a b (some false)
def xor' (a b : Option Bool) : Option Bool := xif a (some true) b
def xnot (a : Option Bool) : Option Bool := a.map fun x => !x
def xmand (p q : Option D) : Option D := xif (xbool p) q (some (.bool false))
def xmor (p q : Option D) : Option D := xif (xbool p) (some (.bool true)) q
def xmnot (p : Option D) : Option D := (xbool p).map fun c => .bool (!c)
def xchain (f g : T → T → Option T) (p q r : Option D) : Option D := p.bind fun x => q.bind fun y => xif (xbool (op2 f x y)) (r.bind fun u => op2 g y u) (some (.bool false))
def xneg (p : Option D) : Option D := p.bind fun d => (intD? d).map fun i => .int (-i)
def xint (p : Option D) : Option (Option Int) := p.bind fun d => (intD? d).map some
def xslice (p : Option D) (lo hi : Option (Option Int)) : Option D := p.bind fun d => lo.bind fun a => hi.bind fun b => (sliceT (.p d) a b).bind T.pure?
def xrev (p : Option D) : Option D := p.bind fun d => match d with
  | .list ds => some (.list ds.reverse)
  | .tuple ds => some (.tuple ds.reverse)
  | _ => none
def xlistR (p : Option D) : Option D := p.bind fun d => (intD? d).bind fun j => if j ≤ 1000000 ∧ -1000000 ≤ j then some (.list (rangeD 0 j)) else none
def xisi (n : String) (p : Option D) : Option D := p.map fun d => .bool (isi (tyN d) n)
def ap1 {α R : Type} (f : α → Option R) (p : Option α) : Option R := p.bind f
def ap2 {α β R : Type} (f : α → β → Option R) (p : Option α) (q : Option β) : Option R := p.bind fun a => q.bind fun b => f a b
def ap3 {α β γ R : Type} (f : α → β → γ → Option R) (p : Option α) (q : Option β) (r : Option γ) : Option R := p.bind fun a => q.bind fun b => r.bind fun c => f a b c
def ap4 {α β γ δ R : Type} (f : α → β → γ → δ → Option R) (p : Option α) (q : Option β) (r : Option γ) (s : Option δ) : Option R := p.bind fun a => q.bind fun b => r.bind fun c => s.bind fun d => f a b c d
def ap5 {α β γ δ ε R : Type} (f : α → β → γ → δ → ε → Option R) (p : Option α) (q : Option β) (r : Option γ) (s : Option δ) (t : Option ε) : Option R := p.bind fun a => q.bind fun b => r.bind fun c => s.bind fun d => t.bind fun e => f a b c d e
def ap6 {α β γ δ ε ζ R : Type} (f : α → β → γ → δ → ε → ζ → Option R) (p : Option α) (q : Option β) (r : Option γ) (s : Option δ) (t : Option ε) (u : Option ζ) : Option R := p.bind fun a => q.bind fun b => r.bind fun c => s.bind fun d => t.bind fun e => u.bind fun g => f a b c d e g
/-- an old mirror, as it is -/
def qc (fn : List T → Option T) (ts : List T) : Option D := (callT fn ts).bind T.pure?
def un2 {R : Type} (d : D) (k : D → D → Option R) : Option R := match d with
  | .tuple [a, b] => k a b
  | _ => none
def un3 {R : Type} (d : D) (k : D → D → D → Option R) : Option R := match d with
  | .tuple [a, b, c] => k a b c
  | _ => none
def un4 {R : Type} (d : D) (k : D → D → D → D → Option R) : Option R := match d with
  | .tuple [a, b, c, e] => k a b c e
  | _ => none
def iseq (p : Option D) : Option (List D) := p.bind seqD?
noncomputable def irng1 (p : Option D) : Option (List D) := p.bind fun d => (intD? d).bind fun j => if smallI j then some (rangeD 0 j) else none
noncomputable def irng2 (p q : Option D) : Option (List D) := p.bind fun d => (intD? d).bind fun i => q.bind fun e => (intD? e).bind fun j => if smallI i ∧ smallI j then some (rangeD i j) else none
def izip (p q : Option D) : Option (List D) := p.bind fun a => q.bind fun b => match a, b with
  | .list xs, .list ys => some (zipD xs ys)
  | .tuple xs, .tuple ys => some (zipD xs ys)
  | _, _ => none
def ienum (p : Option D) : Option (List D) := p.bind fun a => match a with
  | .list xs => some (enumD 0 xs)
  | _ => none
/-- a comprehension: none of an item, or what it gives -/
def lcP (h : D → Option (Option D)) : List D → Option (List D)
  | [] => some []
  | d :: r => (h d).bind fun y => (lcP h r).map fun ys => match y with
    | none => ys
    | some y => y :: ys
def mapP (h : D → Option D) : List D → Option (List D)
  | [] => some []
  | d :: r => (h d).bind fun y => (mapP h r).map fun ys => y :: ys
def xflt (c : Option Bool) (p : Option D) : Option (Option D) := xif c (p.map some) (some none)
def lim (p : Option (List D)) : Option (List D) := p.bind fun ds => if ds.length ≤ LIM then some ds else none
def xlc (h : D → Option (Option D)) (q : Option (List D)) : Option D := (lim (q.bind (lcP h))).map PyData.list
def xmap (h : D → Option D) (q : Option (List D)) : Option D := (lim (q.bind (mapP h))).map PyData.list

def own1 (xs : List D) : T := .ml (xs.map T.p)
def own2 (xs : List (List D)) : T := .ml (xs.map own1)
theorem snap_own1 (xs : List D) : (own1 xs).snap = some (.list xs) := by simp [own1, T.snap, snaps_p]
theorem snaps_own : ∀ xs : List (List D), snaps (xs.map own1) = some (xs.map PyData.list)
  | [] => by simp [snaps]
  | x :: r => by simp [snaps, snap_own1, snaps_own r]
theorem snap_own2 (xs : List (List D)) : (own2 xs).snap = some (.list (xs.map PyData.list)) := by simp [own2, T.snap, snaps_own]
inductive W1 : T → D → Prop
  | p (d : D) : W1 (.p d) d
  | o (xs : List D) : W1 (own1 xs) (.list xs)
theorem W1.snap {t : T} {d : D} (h : W1 t d) : t.snap = some d := by
  cases h with
  | p => simp
  | o xs => exact snap_own1 xs
theorem W1.any {t : T} {d : D} (h : W1 t d) {ds : List D} (e : (T.p d).any? = some ds) : t.any? = some ds := by
  cases h with
  | p => exact e
  | o xs =>
    simp only [ev_anyl, Option.some.injEq] at e
    subst e
    simp [own1, T.any?, T.seq?, pures_map]
theorem W1.seq {t : T} {d : D} (h : W1 t d) {ds : List D} (e : (T.p d).seq? = some ds) : t.seq? = some ds := by
  cases h with
  | p => exact e
  | o xs =>
    simp only [ev_seql, Option.some.injEq] at e
    subst e
    simp [own1, T.seq?, pures_map]

def EG {α : Type} (τ : α → T) (m : EM) (env : En) (p : Option α) : Prop := ∀ a, p = some a → m env = some (τ a)
abbrev EX := EG T.p
def EW (m : EM) (env : En) (p : Option D) : Prop := ∀ d, p = some d → ∃ t, m env = some t ∧ W1 t d
def BX (m : En → Option Bool) (env : En) (p : Option Bool) : Prop := ∀ b, p = some b → m env = some b
def AX (m : En → Option (List T)) (env : En) (p : Option (List D)) : Prop := ∀ ds, p = some ds → m env = some (ds.map T.p)
def OX (m : OM) (env : En) (p : Option (Option Int)) : Prop := ∀ o, p = some o → m env = some o
def IX (m : En → Option (List D)) (env : En) (p : Option (List D)) : Prop := ∀ ds, p = some ds → m env = some ds
def FR {R : Type} (RT : R → T → Prop) (x : Option T) (p : Option R) : Prop := ∀ d, p = some d → ∃ t, x = some t ∧ RT d t
def RTp (d : D) (t : T) : Prop := t = .p d
def RTo (d : D) (t : T) : Prop := ∃ xs, d = .list xs ∧ t = own1 xs
def RTs (d : D) (t : T) : Prop := t.snap = some d
theorem FR.ps {x : Option T} {p : Option D} (h : FR RTp x p) : FR RTs x p := fun d e => by
  obtain ⟨t, h1, rfl⟩ := h d e
  exact ⟨_, h1, by simp [RTs]⟩
theorem FR.os {x : Option T} {p : Option D} (h : FR RTo x p) : FR RTs x p := fun d e => by
  obtain ⟨t, h1, xs, rfl, rfl⟩ := h d e
  exact ⟨_, h1, snap_own1 xs⟩

section
variable {env : En} {m m1 m2 m3 : EM} {p q r : Option D} {f g : T → T → Option T}
theorem pure_eq {t : T} {d : D} (h : t.pure? = some d) : t = .p d := by
  cases t with
  | p d' => simp [T.pure?] at h; rw [h]
  | _ => simp [T.pure?] at h
theorem bind_pure {x : Option T} {d : D} (h : x.bind T.pure? = some d) : x = some (.p d) := by
  cases x with
  | none => simp at h
  | some t => simp only [Option.bind_some] at h; rw [pure_eq h]
theorem bs {α β : Type} {x : Option α} {k : α → Option β} {b : β} (h : x.bind k = some b) : ∃ a, x = some a ∧ k a = some b := by
  cases x with
  | none => simp at h
  | some a => exact ⟨a, rfl, h⟩
theorem EG.w (h : EX m env p) : EW m env p := fun d e => ⟨_, h d e, .p d⟩
theorem EG.o {p : Option (List D)} (h : EG own1 m env p) : EW m env (p.map PyData.list) := fun d e => by
  simp only [Option.map_eq_some_iff] at e
  obtain ⟨xs, e, rfl⟩ := e
  exact ⟨_, h xs e, .o xs⟩
theorem e_var {α : Type} {τ : α → T} {i : Nat} {a : α} (h : ((env[i]?).join).map T.strip = some (τ a)) : EG τ (mVar i) env (some a) := fun b e => by
  simp only [Option.some.injEq] at e; subst e; exact h
theorem e_may {i : Nat} {x : Option D} (h : (env[i]?).join = x.map T.p) : EX (mVar i) env x := fun b e => by
  simp only [mVar, h, e, Option.map_some, strip_p]
theorem e_ow {i : Nat} {xs : List D} (h : ((env[i]?).join).map T.strip = some (own1 xs)) : EW (mVar i) env (some (.list xs)) := fun b e => by
  simp only [Option.some.injEq] at e; subst e; exact ⟨_, h, .o xs⟩
theorem e_c {d : D} : EX (mC d) env (some d) := fun b e => by
  simp only [Option.some.injEq] at e; subst e; rfl
theorem e_op (h1 : EX m1 env p) (h2 : EX m2 env q) : EX (mOp f m1 m2) env (xop f p q) := fun d e => by
  obtain ⟨a, ea, e⟩ := bs e
  obtain ⟨b, eb, e⟩ := bs e
  simp only [mOp, h1 a ea, h2 b eb, Option.bind_some]
  exact bind_pure e
def V2 (f : T → T → Option T) : Prop := ∀ t1 t2 d1 d2 x, W1 t1 d1 → W1 t2 d2 → op2 f d1 d2 = some x → f t1 t2 = some (.p x)
theorem e_opw (v : V2 f) (h1 : EW m1 env p) (h2 : EW m2 env q) : EX (mOp f m1 m2) env (xop f p q) := fun d e => by
  obtain ⟨a, ea, e⟩ := bs e
  obtain ⟨b, eb, e⟩ := bs e
  obtain ⟨t1, e1, w1⟩ := h1 a ea
  obtain ⟨t2, e2, w2⟩ := h2 b eb
  simp only [mOp, e1, e2, Option.bind_some]
  exact v _ _ _ _ _ w1 w2 e
theorem v2_ix : V2 idxT := fun t1 t2 d1 d2 x w1 w2 e => by
  cases w2 with
  | o xs => simp [op2, idxT, T.int?] at e
  | p d2 =>
    cases w1 with
    | p => exact bind_pure e
    | o xs =>
      have e := bind_pure e
      cases d2 with
      | int i =>
        simp only [ev_ixl] at e
        simp only [own1, ev_ixm]
        rw [show atI (xs.map T.p) i = (atI xs i).map T.p by
          simp only [atI, List.length_map]
          cases ixN xs.length i <;> simp [List.getElem?_map]]
        exact e
      | _ => simp [idxT, T.int?] at e
theorem e_f1 {f : List T → Option T} (h : EX m env p) : EX (mCall f (aCons m aNil)) env (xf1 f p) := fun d e => by
  obtain ⟨a, ea, e⟩ := bs e
  simp only [mCall, aCons, aNil, h a ea, Option.bind_some, Option.map_some]
  exact bind_pure e
theorem e_f2 {f : List T → Option T} (h1 : EX m1 env p) (h2 : EX m2 env q) : EX (mCall f (aCons m1 (aCons m2 aNil))) env (xf2 f p q) := fun d e => by
  obtain ⟨a, ea, e⟩ := bs e
  obtain ⟨b, eb, e⟩ := bs e
  simp only [mCall, aCons, aNil, h1 a ea, h2 b eb, Option.bind_some, Option.map_some]
  exact bind_pure e
theorem b_val (h : EX m env p) : BX (bVal m) env (xbool p) := fun b e => by
  obtain ⟨a, ea, e⟩ := bs e
  simp only [bVal, h a ea, Option.bind_some]
  cases a <;> simp [boolD?] at e
  subst e; rfl
theorem b_op (h : EX (mOp f m1 m2) env p) : BX (bOp f m1 m2) env (xbool p) := b_val h
theorem b_and {c1 c2 : En → Option Bool} {p q : Option Bool} (h1 : BX c1 env p) (h2 : BX c2 env q) : BX (bAnd c1 c2) env (xand p q) := fun b e => by
  obtain ⟨a, ea, e⟩ := bs e
  simp only [bAnd, h1 a ea, Option.bind_some]
  cases a with
  | true => simpa using h2 b (by simpa using e)
  | false => simpa using e
theorem b_or {c1 c2 : En → Option Bool} {p q : Option Bool} (h1 : BX c1 env p) (h2 : BX c2 env q) : BX (bOr c1 c2) env (xor' p q) := fun b e => by
  obtain ⟨a, ea, e⟩ := bs e
  simp only [bOr, h1 a ea, Option.bind_some]
  cases a with
  | true => simpa using e
  | false => simpa using h2 b (by simpa using e)
theorem b_not {c1 : En → Option Bool} {p : Option Bool} (h1 : BX c1 env p) : BX (bNot c1) env (xnot p) := fun b e => by
  simp only [xnot, Option.map_eq_some_iff] at e
  obtain ⟨a, ea, rfl⟩ := e
  simp only [bNot, h1 a ea, Option.map_some]
theorem e_and (h1 : EX m1 env p) (h2 : EX m2 env q) : EX (mAnd m1 m2) env (xmand p q) := fun d e => by
  obtain ⟨c, ec, e⟩ := bs e
  obtain ⟨a, ea, ec⟩ := bs ec
  cases a <;> simp [boolD?] at ec
  subst ec
  simp only [mAnd, h1 _ ea, Option.bind_some, ev_bool]
  rename_i b
  cases b with
  | true => simpa using h2 d (by simpa using e)
  | false => simpa using e
theorem e_if {c : En → Option Bool} {pc : Option Bool} (hc : BX c env pc) (h1 : EX m1 env p) (h2 : EX m2 env q) : EX (mIf c m1 m2) env (xif pc p q) := fun d e => by
  obtain ⟨b, eb, e⟩ := bs e
  simp only [mIf, hc b eb, Option.bind_some]
  cases b with
  | true => simpa using h1 d (by simpa using e)
  | false => simpa using h2 d (by simpa using e)
theorem e_neg (h : EX m env p) : EX (mNeg m) env (xneg p) := fun d e => by
  obtain ⟨a, ea, e⟩ := bs e
  cases a <;> simp [intD?] at e
  subst e
  simp only [mNeg, h _ ea, Option.bind_some, ev_int, Option.map_some]
theorem o_none : OX oNone env (some none) := fun o e => by simp only [Option.some.injEq] at e; subst e; rfl
theorem o_some (h : EX m env p) : OX (oSome m) env (xint p) := fun o e => by
  obtain ⟨a, ea, e⟩ := bs e
  cases a <;> simp [intD?] at e
  subst e
  simp only [oSome, h _ ea, Option.bind_some, ev_int, Option.map_some]
theorem e_slice {lo hi : OM} {a b : Option (Option Int)} (h : EX m env p) (h1 : OX lo env a) (h2 : OX hi env b) : EX (mSlice m lo hi) env (xslice p a b) := fun d e => by
  obtain ⟨x, ex, e⟩ := bs e
  obtain ⟨y, ey, e⟩ := bs e
  obtain ⟨z, ez, e⟩ := bs e
  simp only [mSlice, h x ex, h1 y ey, h2 z ez, Option.bind_some]
  exact bind_pure e
theorem e_listR (h : EX m env p) : EX (mListR1 m) env (xlistR p) := fun d e => by
  obtain ⟨x, ex, e⟩ := bs e
  obtain ⟨j, ej, e⟩ := bs e
  cases x <;> simp [intD?] at ej
  subst ej
  simp only [mListR1, h _ ex, Option.bind_some, ev_int]
  split
  · rename_i hh; rw [if_pos hh] at e; simp only [Option.some.injEq] at e; rw [e]
  · rename_i hh; rw [if_neg hh] at e; simp at e
theorem a_nil : AX aNil env (xseq []) := fun ds e => by
  simp only [xseq, Option.some.injEq] at e; subst e; rfl
theorem a_cons {ms : En → Option (List T)} {l : List (Option D)} (h : EX m env p) (hs : AX ms env (xseq l)) : AX (aCons m ms) env (xseq (p :: l)) := fun ds e => by
  obtain ⟨a, ea, e⟩ := bs e
  simp only [Option.map_eq_some_iff] at e
  obtain ⟨as, eas, rfl⟩ := e
  simp only [aCons, h a ea, hs as eas, Option.bind_some, Option.map_some, List.map_cons]
theorem xseq_len : ∀ {l : List (Option D)} {ds : List D}, xseq l = some ds → ds.length = l.length
  | [], ds, e => by simp only [xseq, Option.some.injEq] at e; subst e; rfl
  | p :: l, ds, e => by
    obtain ⟨a, ea, e⟩ := bs e
    simp only [Option.map_eq_some_iff] at e
    obtain ⟨as, eas, rfl⟩ := e
    simp [xseq_len eas]
theorem e_tup {ms : En → Option (List T)} {l : List (Option D)} (h : AX ms env (xseq l)) (hl : l.length ≤ LIM := by exact Nat.le_of_ble_eq_true rfl) : EX (mTup ms) env (xtup l) := fun d e => by
  simp only [xtup, Option.map_eq_some_iff] at e
  obtain ⟨ds, e, rfl⟩ := e
  have hn : ds.length ≤ LIM := by rw [xseq_len e]; exact hl
  simp only [mTup, h ds e, Option.bind_some, pures_map, hn, if_true]
theorem e_lst {ms : En → Option (List T)} {l : List (Option D)} (h : AX ms env (xseq l)) (hl : l.length ≤ LIM := by exact Nat.le_of_ble_eq_true rfl) : EX (mLst ms) env (xlst l) := fun d e => by
  simp only [xlst, Option.map_eq_some_iff] at e
  obtain ⟨ds, e, rfl⟩ := e
  have hn : ds.length ≤ LIM := by rw [xseq_len e]; exact hl
  simp only [mLst, h ds e, Option.bind_some, pures_map, hn, if_true]
theorem i_seq (h : EX m env p) : IX (iSeq m) env (iseq p) := fun ds e => by
  obtain ⟨a, ea, e⟩ := bs e
  simp only [iSeq, h a ea, Option.bind_some]
  cases a <;> simp [seqD?] at e <;> subst e <;> rfl
theorem i_seqB (h : EW m env p) : IX (iSeqB m) env (iseq p) := fun ds e => by
  obtain ⟨a, ea, e⟩ := bs e
  obtain ⟨t, et, w⟩ := h a ea
  simp only [iSeqB, et, Option.bind_some]
  refine w.any ?_
  cases a <;> simp [seqD?] at e <;> subst e <;> rfl
theorem i_rng1 (h : EX m env p) : IX (M.iRng1 m) env (irng1 p) := fun ds e => by
  obtain ⟨a, ea, e⟩ := bs e
  obtain ⟨j, ej, e⟩ := bs e
  cases a <;> simp [intD?] at ej
  subst ej
  simp only [M.iRng1, h _ ea, Option.bind_some, ev_int]
  exact e
variable {mi : En → Option (List D)} {il : Option (List D)} {vs : List Nat} {gg : D → En → Option En} {tt : En → Option Bool} {me : EM}
theorem lc_run {e0 : En} {h : D → Option (Option D)} (hb : ∀ d y, h d = some y → ∃ e, gg d e0 = some e ∧ match y with | none => tt e = some false | some y => tt e = some true ∧ me e = some (.p y)) :
    ∀ (ds out : List D), lcP h ds = some out → lcRun gg tt me e0 ds = some out
  | [], out, e => by simp only [lcP, Option.some.injEq] at e; subst e; rfl
  | d :: r, out, e => by
    obtain ⟨y, ey, e⟩ := bs e
    simp only [Option.map_eq_some_iff] at e
    obtain ⟨ys, eys, e⟩ := e
    obtain ⟨e1, h1, h2⟩ := hb d y ey
    have ih := lc_run hb r ys eys
    cases y with
    | none => simp only at h2 e; simp only [lcRun, h1, h2, Option.bind_some, ih, Bool.false_eq_true, if_false, e]
    | some y => simp only at h2 e; simp only [lcRun, h1, h2.1, h2.2, Option.bind_some, ih, if_true, ev_pure, Option.map_some, e]
theorem map_run {e0 : En} {h : D → Option D} (hb : ∀ d y, h d = some y → ∃ e, gg d e0 = some e ∧ me e = some (.p y)) :
    ∀ (ds out : List D), mapP h ds = some out → lcRun gg bYes me e0 ds = some out
  | [], out, e => by simp only [mapP, Option.some.injEq] at e; subst e; rfl
  | d :: r, out, e => by
    obtain ⟨y, ey, e⟩ := bs e
    simp only [Option.map_eq_some_iff] at e
    obtain ⟨ys, eys, rfl⟩ := e
    obtain ⟨e1, h1, h2⟩ := hb d y ey
    simp only [lcRun, h1, bYes, h2, Option.bind_some, map_run hb r ys eys, if_true, ev_pure, Option.map_some]
theorem lim_eq {p : Option (List D)} {ds : List D} (h : lim p = some ds) : p = some ds ∧ ds.length ≤ LIM := by
  obtain ⟨x, ex, h⟩ := bs h
  split at h
  · rename_i hh; simp only [Option.some.injEq] at h; subst h; exact ⟨ex, hh⟩
  · simp at h
/-- the element judged behind the target: by a name -/
theorem e_lc {i : Nat} {ht : D → Option Bool} {hm : D → Option D} (hi : IX mi env il) (hb : ∀ d, BX tt ((wipeE env vs).set i (some (.p d))) (ht d) ∧ EX me ((wipeE env vs).set i (some (.p d))) (hm d)) :
    EX (mLc mi vs (gNm i) tt me) env (xlc (fun d => xflt (ht d) (hm d)) il) := fun d e => by
  simp only [xlc, Option.map_eq_some_iff] at e
  obtain ⟨out, e, rfl⟩ := e
  obtain ⟨e, hl⟩ := lim_eq e
  obtain ⟨ds, e1, e⟩ := bs e
  have := lc_run (gg := gNm i) (tt := tt) (me := me) (e0 := wipeE env vs) (h := fun d => xflt (ht d) (hm d)) (fun d y ey => ⟨_, rfl, by
    obtain ⟨b, eb, ey⟩ := bs ey
    cases b with
    | true =>
      simp only [if_true, Option.map_eq_some_iff] at ey
      obtain ⟨z, ez, rfl⟩ := ey
      exact ⟨(hb d).1 _ eb, (hb d).2 z ez⟩
    | false =>
      simp only [Bool.false_eq_true, if_false, Option.some.injEq] at ey
      subst ey
      exact (hb d).1 _ eb⟩) ds out e
  simp only [mLc, hi ds e1, Option.bind_some, this, hl, if_true]
theorem e_map {i : Nat} {hm : D → Option D} (hi : IX mi env il) (hb : ∀ d, EX me ((wipeE env vs).set i (some (.p d))) (hm d)) :
    EX (mLc mi vs (gNm i) bYes me) env (xmap hm il) := fun d e => by
  simp only [xmap, Option.map_eq_some_iff] at e
  obtain ⟨out, e, rfl⟩ := e
  obtain ⟨e, hl⟩ := lim_eq e
  obtain ⟨ds, e1, e⟩ := bs e
  have := map_run (gg := gNm i) (me := me) (e0 := wipeE env vs) (h := hm) (fun d y ey => ⟨_, rfl, hb d y ey⟩) ds out e
  simp only [mLc, hi ds e1, Option.bind_some, this, hl, if_true]
abbrev g2 (i j : Nat) : D → En → Option En := gTp (gCn (gNm i) (gCn (gNm j) gNl))
abbrev g3 (i j k : Nat) : D → En → Option En := gTp (gCn (gNm i) (gCn (gNm j) (gCn (gNm k) gNl)))
abbrev g4 (i j k l : Nat) : D → En → Option En := gTp (gCn (gNm i) (gCn (gNm j) (gCn (gNm k) (gCn (gNm l) gNl))))
theorem un2_eq {R : Type} {d : D} {k : D → D → Option R} {r : R} (h : un2 d k = some r) : ∃ a b, d = .tuple [a, b] ∧ k a b = some r := by
  unfold un2 at h
  split at h
  · exact ⟨_, _, rfl, h⟩
  · simp at h
theorem e_map2 {i j : Nat} {hm : D → D → Option D} (hi : IX mi env il) (hb : ∀ a b, EX me (((wipeE env vs).set i (some (.p a))).set j (some (.p b))) (hm a b)) :
    EX (mLc mi vs (g2 i j) bYes me) env (xmap (fun d => un2 d hm) il) := fun d e => by
  simp only [xmap, Option.map_eq_some_iff] at e
  obtain ⟨out, e, rfl⟩ := e
  obtain ⟨e, hl⟩ := lim_eq e
  obtain ⟨ds, e1, e⟩ := bs e
  have := map_run (gg := g2 i j) (me := me) (e0 := wipeE env vs) (h := fun d => un2 d hm) (fun d y ey => by
    obtain ⟨a, b, rfl, ey⟩ := un2_eq ey
    exact ⟨_, rfl, hb a b y ey⟩) ds out e
  simp only [mLc, hi ds e1, Option.bind_some, this, hl, if_true]
end
end N
namespace N
open PySem PySem.Spec PyProof.Rows L2 M

def Fz {α : Type} (τ : α → T) : Prop := ∀ a, (τ a).frozen = true
theorem fz_p : Fz T.p := fun _ => rfl
theorem fz_sc : Fz T.sc := fun _ => rfl
section
variable {env : En} {fn : List T → Option T} {α β γ δ ε ζ : Type} {τ1 : α → T} {τ2 : β → T} {τ3 : γ → T} {τ4 : δ → T} {τ5 : ε → T} {τ6 : ζ → T} {m1 m2 m3 m4 m5 m6 : EM}
  {p1 : Option α} {p2 : Option β} {p3 : Option γ} {p4 : Option δ} {p5 : Option ε} {p6 : Option ζ}
theorem call_s {ts : List T} {p : Option D} (hf : ts.all T.frozen = true) (h : FR RTs (fn ts) p) {d : D} (e : p = some d) : callT fn ts = some (.p d) := by
  obtain ⟨t, h1, h2⟩ := h d e
  have h2 : t.snap = some d := h2
  simp only [callT, hf, if_true, h1, Option.bind_some, h2, Option.map_some]
theorem e_call1 {P : α → Option D} (h1 : EG τ1 m1 env p1) (f1 : Fz τ1) (R : ∀ a, FR RTs (fn [τ1 a]) (P a)) : EX (mCall (callT fn) (aCons m1 aNil)) env (ap1 P p1) := fun d e => by
  obtain ⟨a, ea, e⟩ := bs e
  simp only [mCall, aCons, aNil, h1 a ea, Option.bind_some, Option.map_some]
  exact call_s (by simp [f1 a]) (R a) e
theorem e_call2 {P : α → β → Option D} (h1 : EG τ1 m1 env p1) (h2 : EG τ2 m2 env p2) (f1 : Fz τ1) (f2 : Fz τ2) (R : ∀ a b, FR RTs (fn [τ1 a, τ2 b]) (P a b)) : EX (mCall (callT fn) (aCons m1 (aCons m2 aNil))) env (ap2 P p1 p2) := fun d e => by
  obtain ⟨a, ea, e⟩ := bs e
  obtain ⟨b, eb, e⟩ := bs e
  simp only [mCall, aCons, aNil, h1 a ea, h2 b eb, Option.bind_some, Option.map_some]
  exact call_s (by simp [f1 a, f2 b]) (R a b) e
theorem e_call3 {P : α → β → γ → Option D} (h1 : EG τ1 m1 env p1) (h2 : EG τ2 m2 env p2) (h3 : EG τ3 m3 env p3) (f1 : Fz τ1) (f2 : Fz τ2) (f3 : Fz τ3) (R : ∀ a b c, FR RTs (fn [τ1 a, τ2 b, τ3 c]) (P a b c)) : EX (mCall (callT fn) (aCons m1 (aCons m2 (aCons m3 aNil)))) env (ap3 P p1 p2 p3) := fun d e => by
  obtain ⟨a, ea, e⟩ := bs e
  obtain ⟨b, eb, e⟩ := bs e
  obtain ⟨c, ec, e⟩ := bs e
  simp only [mCall, aCons, aNil, h1 a ea, h2 b eb, h3 c ec, Option.bind_some, Option.map_some]
  exact call_s (by simp [f1 a, f2 b, f3 c]) (R a b c) e
/-- an old mirror -/
theorem fr_qc {ts : List T} (hf : ts.all T.frozen = true) : FR RTs (fn ts) (qc fn ts) := fun d e => by
  obtain ⟨t, et, e⟩ := bs e
  have e := pure_eq e
  subst e
  simp only [callT, hf, if_true] at et
  obtain ⟨u, eu, et⟩ := bs et
  refine ⟨u, eu, ?_⟩
  simp only [Option.map_eq_some_iff, T.p.injEq] at et
  obtain ⟨x, ex, rfl⟩ := et
  exact ex
def flatO (p : Option D) : Option D := p.bind fun d => if flatD d then some d else none
variable {q1 q2 q3 q4 q5 : Option D}
end

section
variable {env : En} {m m1 m2 : EM} {p q : Option D}
def asL (p : Option D) : Option (List D) := p.bind fun d => match d with
  | .list xs => some xs
  | _ => none
theorem f_pure (h : EX m env p) : EX (mPure m) env p := fun d e => by simp only [mPure, h d e, Option.bind_some, ev_pure, Option.map_some]
theorem f_lst {ms : En → Option (List T)} {l : List (Option D)} (h : AX ms env (xseq l)) (hl : l.length ≤ LIM := by exact Nat.le_of_ble_eq_true rfl) : EG own1 (mLstF ms) env (xseq l) := fun ds e => by
  have hn : (ds.map T.p).length ≤ LIM := by rw [List.length_map, xseq_len e]; exact hl
  simp only [mLstF, h ds e, Option.bind_some, hn, if_true, own1]
theorem af_cons {ms : En → Option (List T)} {l : List (Option D)} (h : EX m env p) (hs : AX ms env (xseq l)) : AX (aCons (mPure m) ms) env (xseq (p :: l)) := a_cons (f_pure h) hs
noncomputable def xrep (p q : Option D) : Option (List D) := p.bind fun d => (match d with | .list xs => some xs | _ => none).bind fun xs => q.bind fun e => (intD? e).bind fun j => if rep62 xs.length j then some (List.replicate j.toNat xs).flatten else none
theorem f_rep (h : EX m1 env p) (h2 : EX m2 env q) : EG own1 (mRepF m1 m2) env (xrep p q) := fun ds e => by
  obtain ⟨a, ea, e⟩ := bs e
  obtain ⟨xs, exs, e⟩ := bs e
  obtain ⟨b, eb, e⟩ := bs e
  obtain ⟨j, ej, e⟩ := bs e
  cases a <;> simp at exs
  cases b <;> simp [intD?] at ej
  subst exs ej
  simp only [mRepF, h _ ea, h2 _ eb, Option.bind_some, ev_lstl, ev_int]
  split at e
  · rename_i hh
    simp only [Option.some.injEq] at e
    subst e
    rw [if_pos hh]; rfl
  · simp at e
def xdget (x : List (Key × D)) (q : Option D) : Option D := q.bind fun c => (keyOf? c).bind fun k => valD x k
theorem e_dget {x : List (Key × D)} {t : T} (h1 : m1 env = some t) (hd : t.dct? = some x) (h2 : EX m2 env q) : EX (mOp dGetT m1 m2) env (xdget x q) := fun d e => by
  obtain ⟨c, ec, e⟩ := bs e
  obtain ⟨k, ek, e⟩ := bs e
  simp only [mOp, h1, h2 c ec, Option.bind_some, dGetT, hd, ev_pure, ek, e, Option.map_some]
theorem f_dnew : EG T.md mDNew env (some []) := fun a e => by simp only [Option.some.injEq] at e; subst e; rfl
end

/-- a dict as data -/
def dD (x : List (Key × D)) : D := .dict (x.map fun p => (keyD p.1, p.2))
theorem rts_md (x : List (Key × D)) : RTs (dD x) (.md x) := by simp [RTs, T.snap, dD]
def SB {R : Type} (m : SM) (env : En) (p : Option R) (Z : R → Out → Prop) : Prop := ∀ r, p = some r → ∃ o, m env = some o ∧ Z r o
inductive Ct (S ρ : Type) where
  | nx (s : S) | bk (s : S) | rt (d : ρ)
def ZR (RT : D → T → Prop) : D → Out → Prop := fun d o => (∃ t, o = .rt t ∧ RT d t) ∨ ∃ e, o = .nx e ∧ RT d (.p .none)
def ZN {S J : Type} (enc : S → J → En) : S → Out → Prop := fun s o => ∃ j, o = .nx (enc s j) ∨ o = .ct (enc s j)
def ZI {S J : Type} (enc : S → J → En) : S → Out → Prop := fun s o => ∃ j, o = .nx (enc s j)
def ZC {S J ρ : Type} (RT : ρ → T → Prop) (enc : S → J → En) : Ct S ρ → Out → Prop
  | .nx s, o => ∃ j, o = .nx (enc s j) ∨ o = .ct (enc s j)
  | .bk s, o => ∃ j, o = .bk (enc s j)
  | .rt d, o => ∃ t, o = .rt t ∧ RT d t
section
variable {R : Type} {env : En} {a b c rest : SM} {Z : R → Out → Prop} {p : Option R} {me me2 mi : EM} {q q2 : Option D} {i j : Nat}
theorem run_fr {RT : D → T → Prop} {n : Nat} {body : SM} {ts : List T} {p : Option D} (h : SB body (startE n ts) p (ZR RT)) : FR RT (runFn n body ts) p := fun d e => by
  obtain ⟨o, h1, h2⟩ := h d e
  rcases h2 with ⟨t, rfl, h2⟩ | ⟨e', rfl, h2⟩
  · exact ⟨t, by simp only [runFn, h1, Option.bind_some], h2⟩
  · exact ⟨_, by simp only [runFn, h1, Option.bind_some], h2⟩
theorem sb_one (h : SB (sCons a sNil) env p Z) : SB a env p Z := fun r e => by
  obtain ⟨o, h1, h2⟩ := h r e
  refine ⟨o, ?_, h2⟩
  simp only [sCons] at h1
  obtain ⟨o', e1, h1⟩ := bs h1
  rw [e1]
  cases o' <;> simpa [sNil] using h1
theorem sb_assoc (h : SB (sCons a (sCons b c)) env p Z) : SB (sCons (sCons a b) c) env p Z := fun r e => by
  obtain ⟨o, h1, h2⟩ := h r e
  refine ⟨o, ?_, h2⟩
  simp only [sCons] at h1 ⊢
  obtain ⟨o', e1, h1⟩ := bs h1
  rw [e1]
  cases o' <;> simpa using h1
theorem sb_skip (h : SB rest env p Z) : SB (sCons sNil rest) env p Z := fun r e => by
  obtain ⟨o, h1, h2⟩ := h r e
  exact ⟨o, by simpa [sCons, sNil] using h1, h2⟩
theorem sb_nil {r : R} (h : Z r (.nx env)) : SB sNil env (some r) Z := fun r' e => by
  simp only [Option.some.injEq] at e; subst e; exact ⟨_, rfl, h⟩
theorem sb_never : SB a env (none : Option R) Z := fun r e => by simp at e
theorem sb_set {k : D → Option R} (he : EX me env q) (hk : ∀ d, SB rest (env.set i (some (.p d))) (k d) Z) : SB (sCons (sSet i me) rest) env (q.bind k) Z := fun r e => by
  obtain ⟨d, ed, e⟩ := bs e
  obtain ⟨o, h1, h2⟩ := hk d r e
  exact ⟨o, by simp only [sCons, sSet, he d ed, Option.bind_some, ev_pure, Option.map_some, h1], h2⟩
theorem sb_setF {α : Type} {τ : α → T} {q : Option α} {k : α → Option R} (he : EG τ me env q) (hk : ∀ d, SB rest (env.set i (some (τ d))) (k d) Z) : SB (sCons (sSetF i me) rest) env (q.bind k) Z := fun r e => by
  obtain ⟨d, ed, e⟩ := bs e
  obtain ⟨o, h1, h2⟩ := hk d r e
  exact ⟨o, by simp only [sCons, sSetF, he d ed, Option.map_some, Option.bind_some, h1], h2⟩
theorem sb_expr (he : EX me env q) (hk : SB rest env p Z) : SB (sCons (sExpr me) rest) env (q.bind fun _ => p) Z := fun r e => by
  obtain ⟨d, ed, e⟩ := bs e
  obtain ⟨o, h1, h2⟩ := hk r e
  exact ⟨o, by simp only [sCons, sExpr, he d ed, Option.map_some, Option.bind_some, h1], h2⟩
theorem sb_asg2 {k : D → D → Option R} (he : EX me env q) (hk : ∀ x y, SB rest ((env.set i (some (.p x))).set j (some (.p y))) (k x y) Z) : SB (sCons (sAsg (g2 i j) me) rest) env (q.bind fun d => un2 d k) Z := fun r e => by
  obtain ⟨d, ed, e⟩ := bs e
  obtain ⟨x, y, rfl, e⟩ := un2_eq e
  obtain ⟨o, h1, h2⟩ := hk x y r e
  exact ⟨o, by simp only [sCons, sAsg, he _ ed, Option.bind_some, ev_pure, gTp, gCn, gNm, gNl, Option.map_some, h1], h2⟩
theorem sb_ret {k : D → R} (he : EX me env q) (hz : ∀ d, Z (k d) (.rt (.p d))) : SB (sCons (sRet me) rest) env (q.map k) Z := fun r e => by
  simp only [Option.map_eq_some_iff] at e
  obtain ⟨d, ed, rfl⟩ := e
  exact ⟨_, by simp only [sCons, sRet, he d ed, Option.bind_some, ev_pure, Option.map_some], hz d⟩
theorem sb_ret0 {Z : D → Out → Prop} (he : EX me env q) (hz : ∀ d, Z d (.rt (.p d))) : SB (sCons (sRet me) rest) env q Z := fun d ed =>
  ⟨_, by simp only [sCons, sRet, he d ed, Option.bind_some, ev_pure, Option.map_some], hz d⟩
theorem sb_retV {r : R} {t : T} (h : (env[i]?).join = some t) (hz : Z r (.rt t)) : SB (sCons (sRetV i) rest) env (some r) Z := fun r' e => by
  simp only [Option.some.injEq] at e; subst e
  exact ⟨_, by simp only [sCons, sRetV, slotT, h, Option.map_some, Option.bind_some], hz⟩
theorem sb_frz {t : T} {d : D} (h : env[i]? = some (some t)) (hs : t.snap = some d) (hk : SB a (env.set i (some (.p d))) p Z) : SB (sFrz i a) env p Z := fun r e => by
  obtain ⟨o, h1, h2⟩ := hk r e
  exact ⟨o, by simp only [sFrz, h, hs, Option.bind_some, h1], h2⟩
theorem sb_frzC {t : T} {d : D} (h : env[i]? = some (some t)) (hs : t.snap = some d) (hk : SB (sCons a rest) (env.set i (some (.p d))) p Z) : SB (sCons (sFrz i a) rest) env p Z := fun r e => by
  obtain ⟨o, h1, h2⟩ := hk r e
  exact ⟨o, by simp only [sCons, sFrz, h, hs, Option.bind_some] at h1 ⊢; exact h1, h2⟩
theorem sb_if {cc : En → Option Bool} {pc : Option Bool} {p' : Option R} (hc : BX cc env pc) (ha : SB (sCons a rest) env p Z) (hb : SB (sCons b rest) env p' Z) : SB (sCons (sIf cc a b) rest) env (xif pc p p') Z := fun r e => by
  obtain ⟨x, ex, e⟩ := bs e
  cases x with
  | true =>
    obtain ⟨o, h1, h2⟩ := ha r (by simpa using e)
    exact ⟨o, by simpa [sCons, sIf, hc _ ex] using h1, h2⟩
  | false =>
    obtain ⟨o, h1, h2⟩ := hb r (by simpa using e)
    exact ⟨o, by simpa [sCons, sIf, hc _ ex] using h1, h2⟩
theorem sb_ifJ {cc : En → Option Bool} {pc : Option Bool} {S J : Type} {enc : S → J → En} {pa pb : Option S} {k : S → Option R} (hc : BX cc env pc) (ha : SB a env pa (ZI enc)) (hb : SB b env pb (ZI enc)) (hk : ∀ s j, SB rest (enc s j) (k s) Z) : SB (sCons (sIf cc a b) rest) env ((xif pc pa pb).bind k) Z := fun r e => by
  obtain ⟨s, es, e⟩ := bs e
  obtain ⟨x, ex, es⟩ := bs es
  cases x with
  | true =>
    obtain ⟨o, h1, j, rfl⟩ := ha s (by simpa using es)
    obtain ⟨o, h3, h4⟩ := hk s j r e
    exact ⟨o, by simp [sCons, sIf, hc _ ex, h1, h3], h4⟩
  | false =>
    obtain ⟨o, h1, j, rfl⟩ := hb s (by simpa using es)
    obtain ⟨o, h3, h4⟩ := hk s j r e
    exact ⟨o, by simp [sCons, sIf, hc _ ex, h1, h3], h4⟩
end
def apd (x : List D) (y : D) : Option (List D) := if x.length < LIM then some (x ++ [y]) else none
def insL (x : List D) (k y : D) : Option (List D) := (intD? k).bind fun k => if 0 ≤ k ∧ k < 2 ^ 62 ∧ x.length < LIM then some (x.take k.toNat ++ [y] ++ x.drop k.toNat) else none
def setL (x : List D) (k y : D) : Option (List D) := (intD? k).bind fun k => (ixN x.length k).map fun j => x.set j y
def putP (x : List (Key × D)) (k y : D) : Option (List (Key × D)) := (keyOf? k).bind fun k => if x.length < LIM then some (putD x k y) else none
section
variable {R : Type} {env : En} {rest : SM} {Z : R → Out → Prop} {p : Option R} {me mi mk : EM} {q q2 q3 : Option D} {i j : Nat}
/-- the slot's tree: what it strips to, and what it wraps -/
theorem upd_at {t : T} {x : List D} (h : env[i]? = some (some t)) (ht : t.strip = own1 x) {f : List T → Option (List T)} {x' : List D} (hf : f (x.map T.p) = some (x'.map T.p)) : updAt (pVar i) f env = some (env.set i (some (t.wrap (own1 x')))) := by
  have hs : slotT env i = some t := by simp [slotT, h]
  simp only [updAt, pVar, hs, Option.map_some, Option.bind_some, T.at, T.put, ht, own1, hf]
theorem sb_append {t : T} {x : List D} {k : List D → Option R} (h : env[i]? = some (some t)) (ht : t.strip = own1 x) (he : EX me env q) (hk : ∀ x', SB rest (env.set i (some (t.wrap (own1 x')))) (k x') Z) : SB (sCons (sAppend (pVar i) me) rest) env (q.bind fun y => (apd x y).bind k) Z := fun r e => by
  obtain ⟨y, ey, e⟩ := bs e
  obtain ⟨x', ex, e⟩ := bs e
  obtain ⟨o, h1, h2⟩ := hk x' r e
  unfold apd at ex
  split at ex
  · rename_i hl
    simp only [Option.some.injEq] at ex
    subst ex
    refine ⟨o, ?_, h2⟩
    simp only [sCons, sAppend, he y ey, Option.bind_some, ev_pure]
    rw [upd_at h ht (x' := x ++ [y]) (by rw [if_pos (by rw [List.length_map]; exact hl)]; simp)]
    simpa using h1
  · simp at ex
theorem sb_insert {t : T} {x : List D} {k : List D → Option R} (h : env[i]? = some (some t)) (ht : t.strip = own1 x) (hi : EX mi env q) (he : EX me env q2) (hk : ∀ x', SB rest (env.set i (some (t.wrap (own1 x')))) (k x') Z) : SB (sCons (sInsert (pVar i) mi me) rest) env (q.bind fun l => q2.bind fun y => (insL x l y).bind k) Z := fun r e => by
  obtain ⟨l, el, e⟩ := bs e
  obtain ⟨y, ey, e⟩ := bs e
  obtain ⟨x', ex, e⟩ := bs e
  obtain ⟨o, h1, h2⟩ := hk x' r e
  cases l with
  | int l =>
    simp only [insL, intD?, Option.bind_some] at ex
    split at ex
    · rename_i hl
      simp only [Option.some.injEq] at ex
      subst ex
      refine ⟨o, ?_, h2⟩
      simp only [sCons, sInsert, hi _ el, he _ ey, Option.bind_some, ev_int, ev_pure]
      rw [upd_at h ht (x' := x.take l.toNat ++ [y] ++ x.drop l.toNat) (by unfold insN; rw [if_pos (by rw [List.length_map]; exact hl)]; simp)]
      simpa using h1
    · simp at ex
  | _ => simp [insL, intD?] at ex
theorem sb_setIx {t : T} {x : List D} {k : List D → Option R} (h : env[i]? = some (some t)) (ht : t.strip = own1 x) (hi : EX mi env q) (he : EX me env q2) (hk : ∀ x', SB rest (env.set i (some (t.wrap (own1 x')))) (k x') Z) : SB (sCons (sSetIx (pVar i) mi me) rest) env (q.bind fun l => q2.bind fun y => (setL x l y).bind k) Z := fun r e => by
  obtain ⟨l, el, e⟩ := bs e
  obtain ⟨y, ey, e⟩ := bs e
  obtain ⟨x', ex, e⟩ := bs e
  obtain ⟨o, h1, h2⟩ := hk x' r e
  cases l with
  | int l =>
    simp only [setL, intD?, Option.bind_some, Option.map_eq_some_iff] at ex
    obtain ⟨w, ew, rfl⟩ := ex
    refine ⟨o, ?_, h2⟩
    simp only [sCons, sSetIx, hi _ el, he _ ey, Option.bind_some, ev_int, ev_pure]
    rw [upd_at h ht (x' := x.set w y) (by unfold setN; rw [List.length_map, ew]; simp [List.map_set])]
    simpa using h1
  | _ => simp [setL, intD?] at ex
theorem sb_dput {t : T} {x : List (Key × D)} {k : List (Key × D) → Option R} (h : env[i]? = some (some t)) (ht : t.strip = .md x) (hi : EX mk env q) (he : EX me env q2) (hk : ∀ x', SB rest (env.set i (some (t.wrap (.md x')))) (k x') Z) : SB (sCons (M.sDPut i mk me) rest) env (q2.bind fun y => q.bind fun l => (putP x l y).bind k) Z := fun r e => by
  obtain ⟨y, ey, e⟩ := bs e
  obtain ⟨l, el, e⟩ := bs e
  obtain ⟨x', ex, e⟩ := bs e
  obtain ⟨o, h1, h2⟩ := hk x' r e
  obtain ⟨kk, ek, ex⟩ := bs ex
  split at ex
  · rename_i hl
    simp only [Option.some.injEq] at ex
    subst ex
    have hs : slotT env i = some t := by simp [slotT, h]
    refine ⟨o, ?_, h2⟩
    simp only [sCons, M.sDPut, hi _ el, he _ ey, Option.bind_some, ev_pure, ek, hs, ht, hl, if_true]
    simpa using h1
  · simp at ex
end
def fold {S : Type} (step : S → D → Option S) : List D → S → Option S
  | [], s => some s
  | d :: r, s => (step s d).bind fun s => fold step r s
def foldC {S ρ : Type} (step : S → D → Option (Ct S ρ)) : List D → S → Option (Ct S ρ)
  | [], s => some (.nx s)
  | d :: r, s => (step s d).bind fun c => match c with
    | .nx s => foldC step r s
    | .bk s => some (.nx s)
    | .rt d => some (.rt d)
def whl {S : Type} (c : S → Option Bool) (step : S → Option S) : Nat → S → Option S
  | 0, _ => none
  | n + 1, s => xif (c s) ((step s).bind fun s => whl c step n s) (some s)
/-- behind a loop that may return -/
def aft {S R ρ : Type} (p : Option (Ct S ρ)) (kr : ρ → R) (k : S → Option R) : Option R := p.bind fun c => match c with
  | .nx s => k s
  | .bk _ => none
  | .rt d => some (kr d)
section
variable {R S J : Type} {env : En} {rest mb : SM} {Z : R → Out → Prop} {mi : En → Option (List D)} {il : Option (List D)} {g : D → En → Option En} {enc : S → J → En} {ρ : Type} {RT : ρ → T → Prop}
theorem for_run {step : S → D → Option S} (hb : ∀ s j d r, step s d = some r → ∃ e1 o, g d (enc s j) = some e1 ∧ mb e1 = some o ∧ ZN enc r o) : ∀ (ds : List D) (s : S) (j : J) (s' : S), fold step ds s = some s' → ∃ j', forRun g mb ds (enc s j) = some (.nx (enc s' j'))
  | [], s, j, s', e => by simp only [fold, Option.some.injEq] at e; subst e; exact ⟨j, rfl⟩
  | d :: r, s, j, s', e => by
    obtain ⟨s1, e1, e⟩ := bs e
    obtain ⟨en, o, h1, h2, j1, h3⟩ := hb s j d s1 e1
    obtain ⟨j', h4⟩ := for_run hb r s1 j1 s' e
    refine ⟨j', ?_⟩
    rcases h3 with rfl | rfl <;> simp only [forRun, h1, h2, Option.bind_some, h4]
theorem sb_for {step : S → D → Option S} {s0 : S} {j0 : J} {k : S → Option R} (hi : IX mi env il) (h0 : env = enc s0 j0) (hb : ∀ s j d r, step s d = some r → ∃ e1 o, g d (enc s j) = some e1 ∧ mb e1 = some o ∧ ZN enc r o) (hk : ∀ s j, SB rest (enc s j) (k s) Z) : SB (sCons (sFor mi g mb) rest) env (il.bind fun ds => (fold step ds s0).bind k) Z := fun r e => by
  obtain ⟨ds, ed, e⟩ := bs e
  obtain ⟨s, es, e⟩ := bs e
  subst h0
  obtain ⟨j, h1⟩ := for_run hb ds s0 j0 s es
  obtain ⟨o, h2, h3⟩ := hk s j r e
  exact ⟨o, by simp only [sCons, sFor, hi ds ed, Option.bind_some, h1, h2], h3⟩
theorem stepN {step : S → D → Option S} {i : Nat} (hb : ∀ s j d, SB mb ((enc s j).set i (some (.p d))) (step s d) (ZN enc)) : ∀ s j d r, step s d = some r → ∃ e1 o, gNm i d (enc s j) = some e1 ∧ mb e1 = some o ∧ ZN enc r o := fun s j d r e => by
  obtain ⟨o, h1, h2⟩ := hb s j d r e
  exact ⟨_, o, rfl, h1, h2⟩
theorem step2 {step : S → D → D → Option S} {i i2 : Nat} (hb : ∀ s j x y, SB mb (((enc s j).set i (some (.p x))).set i2 (some (.p y))) (step s x y) (ZN enc)) : ∀ s j d r, (un2 d fun x y => step s x y) = some r → ∃ e1 o, g2 i i2 d (enc s j) = some e1 ∧ mb e1 = some o ∧ ZN enc r o := fun s j d r e => by
  obtain ⟨x, y, rfl, e⟩ := un2_eq e
  obtain ⟨o, h1, h2⟩ := hb s j x y r e
  exact ⟨_, o, rfl, h1, h2⟩
theorem for_runC {step : S → D → Option (Ct S ρ)} (hb : ∀ s j d r, step s d = some r → ∃ e1 o, g d (enc s j) = some e1 ∧ mb e1 = some o ∧ ZC RT enc r o) : ∀ (ds : List D) (s : S) (j : J) (r : Ct S ρ), foldC step ds s = some r → match r with
    | .nx s' => ∃ j', forRun g mb ds (enc s j) = some (.nx (enc s' j'))
    | .bk _ => True
    | .rt d => ∃ t, forRun g mb ds (enc s j) = some (.rt t) ∧ RT d t
  | [], s, j, r, e => by simp only [foldC, Option.some.injEq] at e; subst e; exact ⟨j, rfl⟩
  | d :: r, s, j, c, e => by
    obtain ⟨c1, e1, e⟩ := bs e
    obtain ⟨en, o, h1, h2, h3⟩ := hb s j d c1 e1
    cases c1 with
    | nx s1 =>
      obtain ⟨j1, h3⟩ := h3
      have ih := for_runC hb r s1 j1 c e
      have e2 : forRun g mb (d :: r) (enc s j) = forRun g mb r (enc s1 j1) := by
        rcases h3 with rfl | rfl <;> simp only [forRun, h1, h2, Option.bind_some]
      rw [e2]; exact ih
    | bk s1 =>
      obtain ⟨j1, rfl⟩ := h3
      simp only [Option.some.injEq] at e
      subst e
      exact ⟨j1, by simp only [forRun, h1, h2, Option.bind_some]⟩
    | rt d1 =>
      obtain ⟨t, rfl, h3⟩ := h3
      simp only [Option.some.injEq] at e
      subst e
      exact ⟨t, by simp only [forRun, h1, h2, Option.bind_some], h3⟩
theorem sb_forC {step : S → D → Option (Ct S ρ)} {s0 : S} {j0 : J} {kr : ρ → R} {k : S → Option R} (hi : IX mi env il) (h0 : env = enc s0 j0) (hb : ∀ s j d r, step s d = some r → ∃ e1 o, g d (enc s j) = some e1 ∧ mb e1 = some o ∧ ZC RT enc r o) (hr : ∀ d t, RT d t → Z (kr d) (.rt t)) (hk : ∀ s j, SB rest (enc s j) (k s) Z) : SB (sCons (sFor mi g mb) rest) env (il.bind fun ds => aft (foldC step ds s0) kr k) Z := fun r e => by
  obtain ⟨ds, ed, e⟩ := bs e
  obtain ⟨c, es, e⟩ := bs e
  subst h0
  have h1 := for_runC hb ds s0 j0 c es
  cases c with
  | nx s =>
    obtain ⟨j, h1⟩ := h1
    obtain ⟨o, h2, h3⟩ := hk s j r e
    exact ⟨o, by simp only [sCons, sFor, hi ds ed, Option.bind_some, h1, h2], h3⟩
  | bk s => simp at e
  | rt d =>
    obtain ⟨t, h1, h2⟩ := h1
    simp only [Option.some.injEq] at e
    subst e
    exact ⟨_, by simp only [sCons, sFor, hi ds ed, Option.bind_some, h1], hr d t h2⟩
theorem stepNC {step : S → D → Option (Ct S ρ)} {i : Nat} (hb : ∀ s j d, SB mb ((enc s j).set i (some (.p d))) (step s d) (ZC RT enc)) : ∀ s j d r, step s d = some r → ∃ e1 o, gNm i d (enc s j) = some e1 ∧ mb e1 = some o ∧ ZC RT enc r o := fun s j d r e => by
  obtain ⟨o, h1, h2⟩ := hb s j d r e
  exact ⟨_, o, rfl, h1, h2⟩
theorem whl_run {c : En → Option Bool} {pc : S → Option Bool} {step : S → Option S} (hc : ∀ s j, BX c (enc s j) (pc s)) (hb : ∀ s j, SB mb (enc s j) (step s) (ZN enc)) : ∀ (n : Nat) (s : S) (j : J) (s' : S), whl pc step n s = some s' → ∃ j', whileRun c mb n (enc s j) = some (.nx (enc s' j'))
  | 0, _, _, _, e => by simp [whl] at e
  | n + 1, s, j, s', e => by
    obtain ⟨b, eb, e⟩ := bs e
    cases b with
    | true =>
      simp only [if_true] at e
      obtain ⟨s1, e1, e⟩ := bs e
      obtain ⟨o, h1, j1, h2⟩ := hb s j s1 e1
      obtain ⟨j', h3⟩ := whl_run hc hb n s1 j1 s' e
      refine ⟨j', ?_⟩
      rcases h2 with rfl | rfl <;> simp only [whileRun, hc s j _ eb, h1, h3, Option.bind_some, if_true]
    | false =>
      simp only [Bool.false_eq_true, if_false, Option.some.injEq] at e
      subst e
      exact ⟨j, by simp only [whileRun, hc s j _ eb, Option.bind_some, Bool.false_eq_true, if_false]⟩
theorem sb_whl {c : En → Option Bool} {pc : S → Option Bool} {step : S → Option S} {s0 : S} {j0 : J} {n : Nat} {k : S → Option R} (h0 : env = enc s0 j0) (hc : ∀ s j, BX c (enc s j) (pc s)) (hb : ∀ s j, SB mb (enc s j) (step s) (ZN enc)) (hk : ∀ s j, SB rest (enc s j) (k s) Z) : SB (sCons (sWhile n c mb) rest) env ((whl pc step n s0).bind k) Z := fun r e => by
  obtain ⟨s, es, e⟩ := bs e
  subst h0
  obtain ⟨j, h1⟩ := whl_run hc hb n s0 j0 s es
  obtain ⟨o, h2, h3⟩ := hk s j r e
  exact ⟨o, by simp only [sCons, sWhile, h1, Option.bind_some, h2], h3⟩
end
end N
namespace N
open PySem PySem.Spec PyProof.Rows L2 M

def xpair {α β : Type} (p : Option α) (q : Option β) : Option (α × β) := p.bind fun a => q.map fun b => (a, b)
def AIX {α : Type} (as : List AI) (env : En) (q : Option α) (f : α → List (T × Bool)) : Prop := ∀ a, q = some a → evs env as = some (f a)
section
variable {R : Type} {env : En} {rest mb : SM} {Z : R → Out → Prop} {me : EM} {q p : Option D} {as : List AI} {i : Nat}
theorem aix_nil : AIX [] env (some ()) (fun _ => []) := fun a _ => rfl
theorem aix_ex {α : Type} {q : Option α} {f : α → List (T × Bool)} (h : EX me env p) (hs : AIX as env q f) : AIX (.ex me :: as) env (xpair p q) (fun x => (.p x.1, false) :: f x.2) := fun x e => by
  obtain ⟨a, ea, e⟩ := bs e
  simp only [Option.map_eq_some_iff] at e
  obtain ⟨b, eb, rfl⟩ := e
  simp only [evs, AI.ev, h a ea, Option.bind_some, T.frozen, if_true, hs b eb, Option.map_some]
theorem aix_sl {α : Type} {q : Option α} {f : α → List (T × Bool)} {t : T} (h : env[i]? = some (some t)) (ho : t.strip.isOwn = true) (hs : AIX as env q f) : AIX (.sl i :: as) env q (fun x => (t.strip, true) :: f x) := fun x e => by
  have : slotT env i = some t := by simp [slotT, h]
  simp only [evs, AI.ev, this, Option.bind_some, ho, if_true, hs x e, Option.map_some]
theorem sb_callIO {α ρ : Type} {fn : List T → Option T} {tgt : Option Nat} {q : Option α} {f : α → List (T × Bool)} {Pf : α → Option ρ} {res : ρ → D} {ous : ρ → List T} {k : ρ → Option R} {fin : ρ → En} (ha : AIX as env q f) (hj : (slotsOf as).Nodup) (hn : ∀ r, (ous r).length = (slotsOf as).length)
    (hR : ∀ a r al, Pf a = some r → al.length = (slotsOf as).length → fn (mixT (f a) al) = some (.io (.p (res r)) (rfs al (ous r)))) (hf : ∀ r, finE env as tgt (res r) (ous r) = some (fin r)) (hk : ∀ r, SB rest (fin r) (k r) Z) :
    SB (sCons (sCallIO tgt fn as) rest) env (q.bind fun a => (Pf a).bind k) Z := fun r e => by
  obtain ⟨a, ea, e⟩ := bs e
  obtain ⟨x, ex, e⟩ := bs e
  obtain ⟨o, h1, h2⟩ := hk x r e
  refine ⟨o, ?_, h2⟩
  have := sCallIO_eq (tgt := tgt) (ha a ea) hj ⟨hn x, fun al hal => hR a x al ex hal⟩ (hf x)
  simp only [sCons, this, Option.bind_some, h1]
theorem sb_retIO {js : List Nat} {us : List T} {k : D → R} (he : EX me env q) (hj : js.Nodup) (hp : picks env js = some us) (hz : ∀ d, Z (k d) (.rt (.io (.p d) us))) : SB (sCons (sRetIO js me) rest) env (q.map k) Z := fun r e => by
  simp only [Option.map_eq_some_iff] at e
  obtain ⟨d, ed, rfl⟩ := e
  exact ⟨_, by simp only [sCons, sRetIO, he d ed, Option.bind_some, ev_pure, hj, if_true, hp, Option.map_some], hz d⟩
def ZX {ρ : Type} (js : List Nat) (RT : ρ → T → Prop) : ρ → Out → Prop := fun r o => (∃ t, o = .rt t ∧ RT r t) ∨ ∃ e us, o = .nx e ∧ picks e js = some us ∧ RT r (.io (.p .none) us)
theorem run_io {ρ : Type} {RT : ρ → T → Prop} {n : Nat} {js : List Nat} {body : SM} {ts : List T} {p : Option ρ} (hj : js.Nodup) (h : SB body (startE n ts) p (ZX js RT)) : FR RT (runIO n js body ts) p := fun d e => by
  obtain ⟨o, h1, h2⟩ := h d e
  rcases h2 with ⟨t, rfl, h2⟩ | ⟨e', us, rfl, h3, h2⟩
  · exact ⟨t, by simp only [runIO, h1, Option.bind_some], h2⟩
  · exact ⟨_, by simp only [runIO, h1, Option.bind_some, hj, if_true, h3, Option.map_some], h2⟩
end
def dctD? : D → Option (List (Key × D))
  | .dict ps => keysD ps
  | _ => none
def xdgetD (p q : Option D) : Option D := p.bind fun d => (dctD? d).bind fun x => xdget x q
theorem keysD_dD : ∀ x : List (Key × D), keysD (x.map fun p => (keyD p.1, p.2)) = some x
  | [] => rfl
  | (k, d) :: r => by simp only [List.map_cons, keysD, keyOf_keyD, keysD_dD r, Option.bind_some, Option.map_some]
theorem dct_dD (x : List (Key × D)) : dctD? (dD x) = some x := keysD_dD x
theorem e_dgetD {env : En} {m1 m2 : EM} {p q : Option D} (h1 : EX m1 env p) (h2 : EX m2 env q) : EX (mOp dGetT m1 m2) env (xdgetD p q) := fun d e => by
  obtain ⟨a, ea, e⟩ := bs e
  obtain ⟨x, ex, e⟩ := bs e
  refine e_dget (h1 a ea) ?_ h2 d e
  cases a <;> simp [dctD?] at ex
  simpa [T.dct?] using ex
section
variable {R S J : Type} {env : En} {rest mb : SM} {Z : R → Out → Prop} {enc : S → J → En} {i tg : Nat} {js : List Nat} {x : List (Key × D)}
theorem fd_run {t : T} {step : S → D → Option S} (hi : ∀ s j, (enc s j)[i]? = some (some t)) (hb : ∀ s j d, SB mb ((enc s j).set tg (some (.p d))) (step s d) (ZN enc)) : ∀ (ds : List D) (s : S) (j : J) (s' : S), fold step ds s = some s' → ∃ j', FD i t (gNm tg) mb ds (enc s j) (enc s' j')
  | [], s, j, s', e => by simp only [fold, Option.some.injEq] at e; subst e; exact ⟨j, rfl, hi s j⟩
  | d :: r, s, j, s', e => by
    obtain ⟨s1, e1, e⟩ := bs e
    obtain ⟨o, h1, j1, h2⟩ := hb s j d s1 e1
    obtain ⟨j', h3⟩ := fd_run hi hb r s1 j1 s' e
    refine ⟨j', hi s j, _, rfl, enc s1 j1, ?_, h3⟩
    rcases h2 with rfl | rfl
    · exact .inl h1
    · exact .inr h1
theorem sb_forW {step : S → D → Option S} {s0 : S} {j0 : J} {k : S → Option R} {en : Addr → Obj → List (Key × V) → S → J → En} {fin : S → En} (hs : env[i]? = some (some (.md x))) (hni : i ∉ js) (h0 : ∀ a od kvs, env.set i (some (.mk a od kvs x)) = en a od kvs s0 j0)
    (hi : ∀ a od kvs s j, (en a od kvs s j)[i]? = some (some (.mk a od kvs x))) (hb : ∀ a od kvs s j d, SB mb ((en a od kvs s j).set tg (some (.p d))) (step s d) (ZN (en a od kvs)))
    (hw : ∀ a od kvs s j, forg (en a od kvs s j) (i :: js) = forg (en 0 default [] s j0) (i :: js)) (hf : ∀ s, (forg (en 0 default [] s j0) (i :: js)).set i (some (.md x)) = fin s) (hk : ∀ s, SB rest (fin s) (k s) Z) :
    SB (sCons (sForW i js (gNm tg) mb) rest) env ((fold step (dkeys x) s0).bind k) Z := fun r e => by
  obtain ⟨s, es, e⟩ := bs e
  obtain ⟨o, h2, h3⟩ := hk s r e
  refine ⟨o, ?_, h3⟩
  have fdw : FDw i js (gNm tg) mb x env (en 0 default [] s j0) := ⟨hni, fun a od kvs => by
    obtain ⟨j', h⟩ := fd_run (enc := en a od kvs) (t := .mk a od kvs x) (i := i) (hi a od kvs) (hb a od kvs) (dkeys x) s0 j0 s es
    exact ⟨_, by rw [h0]; exact h, hw a od kvs s j'⟩⟩
  simp only [sCons, sForW_eq hs fdw, Option.bind_some, hf, h2]
end
end N
namespace N
open PySem M
theorem len1_eq {al : List Addr} (h : al.length = 1) : ∃ a, al = [a] := by
  match al, h with
  | [a], _ => exact ⟨a, rfl⟩
theorem len2_eq {al : List Addr} (h : al.length = 2) : ∃ a b, al = [a, b] := by
  match al, h with
  | [a, b], _ => exact ⟨a, b, rfl⟩
end N
namespace N
open PySem PySem.Spec PyProof.Rows L2 M

section
variable {S J ρ : Type} {enc : S → J → En} {mb : SM} {RT : ρ → T → Prop}
end
end N
namespace N
open PySem PySem.Spec PyProof.Rows L2 M

section
variable {m m1 m2 : EM} {env : En} {p q : Option D}
end
end N
namespace N
open PySem PySem.Spec PyProof.Rows L2 M

def owO : D → T
  | .list xs => own1 xs
  | d => .p d
def owt : List Bool → List D → List T
  | _, [] => []
  | [], d :: ds => .p d :: owt [] ds
  | k :: ks, d :: ds => (if k then owO d else .p d) :: owt ks ds
def owT (ks : List Bool) : D → T
  | .tuple ds => .tp (owt ks ds)
  | d => .p d
theorem snap_O (d : D) : (owO d).snap = some d := by
  cases d with
  | list xs => exact snap_own1 xs
  | _ => simp [owO, T.snap]
theorem snap_owt : ∀ (ks : List Bool) (ds : List D), snaps (owt ks ds) = some ds
  | _, [] => by simp [owt, snaps]
  | [], d :: ds => by simp [owt, snaps, T.snap, snap_owt [] ds]
  | k :: ks, d :: ds => by cases k <;> simp [owt, snaps, T.snap, snap_O, snap_owt ks ds]
theorem snap_T (ks : List Bool) (d : D) : (owT ks d).snap = some d := by
  cases d with
  | tuple ds => simp [owT, T.snap, snap_owt]
  | _ => simp [owT, T.snap]
def RTW (ks : List Bool) (d : D) (t : T) : Prop := t = owT ks d
theorem FR.ws {ks : List Bool} {x : Option T} {p : Option D} (h : FR (RTW ks) x p) : FR RTs x p := fun d e => by
  obtain ⟨t, h1, h2⟩ := h d e
  have h2 : t = owT ks d := h2
  subst h2
  exact ⟨_, h1, snap_T ks d⟩
section
variable {env : En} {m m1 m2 m3 m4 : EM} {fn : List T → Option T} {α β γ : Type} {τ1 : α → T} {τ2 : β → T} {τ3 : γ → T} {p1 : Option α} {p2 : Option β} {p3 : Option γ} {τ : D → T}
end
section
variable {env env2 : En} {m : EM} {mb : En → Option Bool} {p : Option D} {pb : Option Bool}
@[simp] theorem view_p {d : D} : (T.p d).view = some (.p d) := by simp [T.view, T.snap]
@[simp] theorem view_sc {ns : List Int} : (T.sc ns).view = some (.sc ns) := by simp [T.view]
@[simp] theorem view_o1 {xs : List D} : (own1 xs).view = some (.p (.list xs)) := by
  have := snap_own1 xs
  unfold own1 at this ⊢
  simp [T.view, this]
@[simp] theorem view_o2 {xs : List (List D)} : (own2 xs).view = some (.p (.list (xs.map PyData.list))) := by
  have := snap_own2 xs
  unfold own2 at this ⊢
  simp [T.view, this]
@[simp] theorem view_O {d : D} : (owO d).view = some (.p d) := by
  cases d with
  | list xs => exact view_o1
  | _ => simp [owO]
@[simp] theorem view_T {ks : List Bool} {d : D} : (owT ks d).view = some (.p d) := by
  cases d with
  | tuple ds =>
    have := snap_T ks (.tuple ds)
    simp only [owT] at this ⊢
    simp [T.view, this]
  | _ => simp [owT]
@[simp] theorem view_m {x : Option D} : (x.map T.p).bind T.view = x.map T.p := by cases x <;> simp
end
section
variable {R : Type} {env : En} {rest : SM} {Z : R → Out → Prop} {me : EM} {q : Option D} {i j l n : Nat}
end
end N
namespace N
open PySem PySem.Spec PyProof.Rows L2 M

def EL (m : EM) (env : En) (p : Option D) : Prop := ∀ d, p = some d → ∃ t, m env = some t ∧ t.lent = some (.p d)
section
variable {env : En} {m m1 m2 m3 : EM} {fn : List T → Option T} {p q1 q2 q3 : Option D}
theorem EG.l (h : EX m env p) : EL m env p := fun d e => ⟨_, h d e, rfl⟩
theorem EW.l (h : EW m env p) : EL m env p := fun d e => by
  obtain ⟨t, e1, w⟩ := h d e
  refine ⟨t, e1, ?_⟩
  cases w with
  | p => rfl
  | o xs => simp [own1, T.lent, pures_map]
end
end N
namespace N
open PySem PySem.Spec PyProof.Rows L2 M
end N
namespace N
open PySem PySem.Spec PyProof.Rows L2 M
def izipM (p q : Option D) : Option (List D) := p.bind fun a => q.bind fun b => match a, b with
  | .list xs, .list ys => some (zipD xs ys)
  | .tuple xs, .tuple ys => some (zipD xs ys)
  | .tuple xs, .list ys => some (zipD xs ys)
  | _, _ => none
theorem i_zipM {m1 m2 : EM} {env : En} {p q : Option D} (h : EX m1 env p) (h2 : EX m2 env q) : IX (iZpM m1 m2) env (izipM p q) := fun ds e => by
  obtain ⟨a, ea, e⟩ := bs e
  obtain ⟨b, eb, e⟩ := bs e
  simp only [iZpM, iOr, iZpTL, iZp, h _ ea, h2 _ eb, Option.bind_some]
  cases a <;> cases b <;> simp at e <;> subst e <;> simp [T.fzl?, T.ptup?]
end N
namespace N
open PySem PySem.Spec PyProof.Rows L2 M
section
variable {R : Type} {env : En} {rest a : SM} {Z : R → Out → Prop} {p : Option (List Stp)} {me mi : EM} {q q2 : Option D} {i j : Nat} {t : T} {mp : PMm}
def RTt (r t : T) : Prop := t = r
theorem FR.ts {x : Option T} {p : Option T} (h : FR RTt x p) : FR RTs x (p.bind T.snap) := fun d e => by
  obtain ⟨t, et, e⟩ := bs e
  obtain ⟨u, h1, h2⟩ := h t et
  have h2 : u = t := h2
  subst h2
  exact ⟨_, h1, e⟩
end
section
variable {env : En} {m1 m2 m3 m4 : EM} {fn : List T → Option T} {α β γ δ : Type} {τ1 : α → T} {τ2 : β → T} {τ3 : γ → T} {τ4 : δ → T} {p1 : Option α} {p2 : Option β} {p3 : Option γ} {p4 : Option δ}
variable {q1 q2 q3 : Option D}
end
end N
namespace N
open PySem PySem.Spec PyProof.Rows L2 M
end N
namespace M
open PySem PySem.Spec PyProof.Rows L2
section
variable {prog : Program} {w : World} {A : Around} {E : Value → Shared → Prop} {s : Shared}
end
section
variable {X : Cx}
end
end M
namespace M
open PySem PySem.Spec PyProof.Rows L2
section
variable {P : Program} {w : World} {A : Around} {E : Value → Shared → Prop} {s : Shared}
end
section
variable {X : Cx}
end
end M
namespace M
open PySem PySem.Spec PyProof.Rows L2
end M
namespace M
open PySem PySem.Spec PyProof.Rows L2

section
variable {X : Cx} {pos : Pos}
end
theorem TRf.none {K : PySem.W.Frag} {G H : Hp} {x : Str} : ∀ {ts : List (Str × T)} {vs : List (Str × V)} {F : List Addr}, TRf K G H ts vs F → ts.lookup x = Option.none → vs.lookup x = Option.none
  | _, _, _, .nil, _ => rfl
  | _, _, _, .cons h r, e => by
    rw [List.lookup_cons] at e ⊢
    split at e
    · cases e
    · exact TRf.none r e
section
variable {X : Cx} {e o : Expr} {es : List Expr} {me mo : EM} {n f m : Str} {C : Addr} {pos apos : Pos}
end
def putFT (f : Str) (t : T) : List (Str × T) → List (Str × T)
  | [] => [(f, t)]
  | (g, u) :: r => if g == f then (g, t) :: r else (g, u) :: putFT f t r
theorem TRf.put {K : PySem.W.Frag} {G H : Hp} {f : Str} {u : T} {y : V} {Fu : List Addr} (q : TR K G H u y Fu) : ∀ {fs : List (Str × T)} {vfs : List (Str × V)} {F : List Addr}, TRf K G H fs vfs F →
    ∃ F', TRf K G H (putFT f u fs) (putF f y vfs) F' ∧ (∀ a ∈ F', a ∈ Fu ∨ a ∈ F) ∧ (F.Nodup → Fu.Nodup → (∀ a ∈ Fu, a ∉ F) → F'.Nodup)
  | _, _, _, .nil => by
    have r := TRf.cons (x := f) q (TRf.nil (K := K) (G := G) (H := H))
    rw [List.append_nil] at r
    exact ⟨Fu, r, fun a h => .inl h, fun _ h _ => h⟩
  | _, _, _, .cons (x := g) (F := F1) (F' := F2) h r => by
    by_cases e : g = f
    · subst e
      refine ⟨Fu ++ F2, ?_, fun a ha => ?_, fun n1 n2 n3 => ?_⟩
      · have := TRf.cons (x := g) q r
        simpa [putFT, putF] using this
      · rcases List.mem_append.mp ha with z | z
        · exact .inl z
        · exact .inr (List.mem_append_right _ z)
      · exact List.nodup_append.mpr ⟨n2, (List.nodup_append.mp n1).2.1, fun a ha b hb e => n3 a ha (e ▸ List.mem_append_right _ hb)⟩
    · obtain ⟨F', p1, p2, p3⟩ := TRf.put (f := f) q r
      refine ⟨F1 ++ F', ?_, fun a ha => ?_, fun n1 n2 n3 => ?_⟩
      · have := TRf.cons (x := g) h p1
        simpa [putFT, putF, e] using this
      · rcases List.mem_append.mp ha with z | z
        · exact .inr (List.mem_append_left _ z)
        · exact (p2 a z).imp_right fun z => List.mem_append_right _ z
      · obtain ⟨m1, m2, m3⟩ := List.nodup_append.mp n1
        refine List.nodup_append.mpr ⟨m1, p3 m2 n2 fun a ha z => n3 a ha (List.mem_append_right _ z), fun a ha b hb e => ?_⟩
        subst e
        rcases p2 a hb with z | z
        · exact n3 a z (List.mem_append_left _ ha)
        · exact m3 a ha a z rfl
theorem TRf.len {K : PySem.W.Frag} {G H : Hp} : ∀ {fs : List (Str × T)} {vfs : List (Str × V)} {F : List Addr}, TRf K G H fs vfs F → vfs.length = fs.length
  | _, _, _, .nil => rfl
  | _, _, _, .cons _ r => by simp [TRf.len r]
section
variable {X : Cx} {o e : Expr} {mp : PMm} {me : EM} {n f : Str} {C : Addr} {pos pos' : Pos}
end
end M
namespace M
open PySem PySem.Spec PyProof.Rows L2

/-- an object of the class, without an attribute of the name -/
def obHas (n m : Str) : T → Bool
  | .ob n' fs => n' == n && (fs.lookup m).isNone
  | .fo n' fs => n' == n && (fs.lookup m).isNone
  | _ => false
theorem TR.obj {K : PySem.W.Frag} {G H : Hp} {n m : Str} {C : Addr} {t : T} {v : V} {F : List Addr} (r : TR K G H t v F) (s : Same G H) (hc : clsAt K n C) (h : obHas n m t = true) : ∃ a dx fs, v = .ref a ∧ H a = some (.ins C dx fs) ∧ fs.lookup m = none := by
  cases r with
  | ob hc' h1 h2 r =>
    simp only [obHas, Bool.and_eq_true] at h
    have hn := eq_of_beq h.1
    subst hn
    cases hc.uniq hc'
    exact ⟨_, _, _, rfl, h1, TRf.none r (by simpa using h.2)⟩
  | fo hc' h1 r =>
    simp only [obHas, Bool.and_eq_true] at h
    have hn := eq_of_beq h.1
    subst hn
    cases hc.uniq hc'
    exact ⟨_, _, _, rfl, s _ _ h1, FR0.none r (by simpa using h.2)⟩
  | _ => simp [obHas] at h
section
variable {X : Cx} {k np : Nat} {f : Addr} {fd : FuncData} {ps : List Str} {fn : List T → Option T} {o e : Expr} {es : List Expr} {mo : EM} {ms : En → Option (List T)} {n m : Str} {C : Addr} {pos apos : Pos}
end
def lentF : List (Str × T) → Option (List (Str × D))
  | [] => some []
  | (x, t) :: r => t.lent.bind fun u => u.pure?.bind fun d => (lentF r).map fun ds => (x, d) :: ds
/-- .. with all lists and objects frozen -/
def lfo (G H : Hp) : Hp := fun a => match G a with
  | some o => some o
  | none => match H a with
    | some (.lst vs) => some (.lst vs)
    | some (.ins C dx fs) => some (.ins C dx fs)
    | _ => none
section
variable {K : PySem.W.Frag} {G H G' : Hp}
theorem lfo_g : Same G (lfo G H) := fun a o e => by simp only [lfo, e]
theorem lfo_l (s : Same G H) {a : Addr} {vs : List V} (h : H a = some (.lst vs)) : lfo G H a = some (.lst vs) := by
  unfold lfo
  split
  · rename_i o e1
    have := s a o e1
    rw [h] at this; exact this.symm ▸ rfl
  · rw [h]
theorem TR.lent (s : Same G H) {t u : T} {v : V} {F : List Addr} (h : TR K G H t v F) (e1 : t.lent = some u) : TR K (lfo G H) H u v [] := by
  cases h with
  | sc h => simp [T.lent] at e1; subst e1; exact .sc (lfo_g.seq h)
  | p h => simp [T.lent] at e1; subst e1; exact .p (h.mono lfo_g)
  | ml h r =>
    simp only [T.lent, Option.map_eq_some_iff] at e1
    obtain ⟨ds, e3, rfl⟩ := e1
    exact .p (.lst (lfo_l s h) ((r.args.pures e3).mono lfo_g))
  | _ => simp [T.lent] at e1
theorem TRf.lent (s : Same G H) : ∀ {fs : List (Str × T)} {vfs : List (Str × V)} {F : List Addr} {ds : List (Str × D)}, TRf K G H fs vfs F → lentF fs = some ds → FR0 K (lfo G H) vfs ds
  | _, _, _, _, .nil, e => by simp [lentF] at e; subst e; exact .nil
  | _, _, _, _, .cons h r, e => by
    simp only [lentF, Option.bind_eq_some_iff, Option.map_eq_some_iff] at e
    obtain ⟨u, e1, d, e2, ds, e3, rfl⟩ := e
    exact .cons ((h.lent s e1).of_pure? e2) (TRf.lent s r e3)
end
section
variable {X : Cx} {k np : Nat} {f : Addr} {fd : FuncData} {ps : List Str} {fn : List T → Option T} {o e : Expr} {es : List Expr} {mo : EM} {ms : En → Option (List T)} {n m : Str} {C : Addr} {pos apos : Pos}
end
end M
namespace M
open PySem PySem.Spec PyProof.Rows L2

def NewRes (n : Str) (fn : List T → Option T) (ts : List T) (t : T) : Prop := ∀ a : Addr, fn (.rf a (.ob n []) :: ts) = some (.io (.p .none) [.rf a t])
theorem NewRes.uniq {n : Str} {fn : List T → Option T} {ts : List T} {t u : T} (h : NewRes n fn ts t) (h' : NewRes n fn ts u) : t = u := by
  have e := h 0
  rw [h' 0] at e
  simpa using e.symm
section
variable {X : Cx} {k np : Nat} {f : Addr} {fd : FuncData} {ps : List Str} {fn : List T → Option T} {x : Str} {e : Expr} {es : List Expr} {ms : En → Option (List T)} {n : Str} {C : Addr} {p pos : Pos}
end
section
variable {X : Cx} {k np i : Nat} {f : Addr} {fd : FuncData} {ps : List Str} {fn : List T → Option T} {x y : Str} {e : Expr} {es : List Expr} {as : List AI} {n m : Str} {C : Addr} {p pos spos pos' apos : Pos}
end
end M
namespace N
open PySem PySem.Spec PyProof.Rows L2 M

section
variable {R : Type} {env : En} {rest : SM} {Z : R → Out → Prop} {me mi : EM} {q q2 : Option D} {i j : Nat} {n f m : Str} {t : T} {fs : List (Str × T)} {ds : List (Str × D)} {d : D} {xs : List D}
@[simp] theorem snapF_nil : snapF [] = some [] := rfl
@[simp] theorem snapF_cons {r : List (Str × T)} : snapF ((f, t) :: r) = t.snap.bind fun d => (snapF r).map fun ds => (f, d) :: ds := rfl
variable {fn : List T → Option T} {m1 m2 m3 : EM} {q1 q3 : Option D}
end
section
variable {R : Type} {env : En} {rest : SM} {Z : R → Out → Prop} {me : EM} {q : Option D} {i j l : Nat}
end
end N
namespace M
open PySem PySem.Spec PyProof.Rows L2
section
variable {X : Cx} {pos : Pos} {me : EM}
end
end M
namespace M
open PySem PySem.Spec PyProof.Rows L2
end M
namespace N
open PySem PySem.Spec PyProof.Rows L2 M
def unFTT {R : Type} (t : T) (k : D → List D → List D → Option R) : Option R := match t with
  | .tp [.p a, .ml bs, .ml cs] => (pures bs).bind fun b => (pures cs).bind fun c => k a b c
  | _ => none
@[simp] theorem c_unFTT {R : Type} {k : D → List D → List D → Option R} {a : D} {b c : List D} : unFTT (.tp [.p a, own1 b, own1 c]) k = k a b c := by
  simp only [unFTT, own1, pures_map, Option.bind_some]
end N
namespace M
open PySem PySem.Spec PyProof.Rows L2

/-- a zip, whatever its first two fields say -/
abbrev ZipF (h : Heap) (z TI TO : Addr) (f0 : Value) (f : Bool) : Prop :=
  h.get? z = some { cls := .type "zip", dict := none, data := .fields #[f0, .bool f, .bool false, .ref TI, .ref TO], slots := #[] }
/-- no tuple is out, or one is that may be gone -/
def ZipS (h : Heap) (z TI TO : Addr) : Prop := ∃ f0 f, ZipF h z TI TO f0 f ∧ (f0 = .none ∨ ∃ T : Addr, f0 = rawInt T)
section
variable {prog : Program} {w : World} {A : Around} {E : Value → Shared → Prop} {s : Shared}
end
end M
namespace M
open PySem PySem.Spec PyProof.Rows L2

theorem fpe {e z TI TO i1 i2 x : Addr} (h : x ∈ [e, z, TI, TO, i1, i2]) : x = e ∨ x = z ∨ x = TI ∨ x = TO ∨ x = i1 ∨ x = i2 := by simpa using h
structure AtEZ (e z TI TO i1 i2 a b : Addr) (i : Nat) (h : Heap) : Prop where
  en : ∃ old, IsEnum h e z (i : Nat) old
  zz : ZipS h z TI TO
  ti : IsPair h TI (.ref i1) (.ref i2)
  to : ∃ x y, IsPair h TO x y
  l1 : h.IsListIter i1 a i
  l2 : h.IsListIter i2 b i
theorem AtEZ.lt {e z TI TO i1 i2 a b : Addr} {i : Nat} {h : Heap} (S : AtEZ e z TI TO i1 i2 a b i h) {x : Addr} (hx : x ∈ [e, z, TI, TO, i1, i2]) : x < h.objs.size := by
  obtain ⟨_, en⟩ := S.en
  obtain ⟨_, _, zz, _⟩ := S.zz
  obtain ⟨_, _, t⟩ := S.to
  obtain ⟨_, e1, _⟩ := S.l1
  obtain ⟨_, e2, _⟩ := S.l2
  rcases fpe hx with rfl | rfl | rfl | rfl | rfl | rfl
  · exact Heap.lt_size en
  · exact Heap.lt_size zz
  · exact Heap.lt_size S.ti
  · exact Heap.lt_size t
  · exact Heap.lt_size e1
  · exact Heap.lt_size e2
section
variable {X : Cx} {e e2 : Expr} {me me2 : EM} {p p2 q pos : Pos}
end
section
variable {X : Cx} {e : Expr} {lo hi : Option Expr} {me : EM} {ml mh : En → Option (Option Int)} {p2 pos : Pos}
end
end M
namespace N
open PySem PySem.Spec PyProof.Rows L2 M
section
variable {m m1 m2 : EM} {env : En} {p q : Option D}
end
end N
section
set_option maxHeartbeats 4000000
open PySem PySem.Spec PyProof.Rows L2 M N
noncomputable section
def P.law_cell_at (x0 : List Int) (x1 : D) : Option D := qc Q.law_cell_at [.sc x0, .p x1]
theorem R.law_cell_at (x0 : List Int) (x1 : D) : FR RTs (Q.law_cell_at [.sc x0, .p x1]) (P.law_cell_at x0 x1) := fr_qc rfl
def P.law_draws (x0 : D) (x1 : D) (x2 : D) : Option D := qc Q.law_draws [.p x0, .p x1, .p x2]
theorem R.law_draws (x0 : D) (x1 : D) (x2 : D) : FR RTs (Q.law_draws [.p x0, .p x1, .p x2]) (P.law_draws x0 x1 x2) := fr_qc rfl
def P.law_best_good (x0 : D) (x1 : D) (x2 : D) : Option D := qc Q.law_best_good [.p x0, .p x1, .p x2]
theorem R.law_best_good (x0 : D) (x1 : D) (x2 : D) : FR RTs (Q.law_best_good [.p x0, .p x1, .p x2]) (P.law_best_good x0 x1 x2) := fr_qc rfl
def P.law_a_book (x0 : List Int) (x1 : D) (x2 : D) : Option D := qc Q.law_a_book [.sc x0, .p x1, .p x2]
theorem R.law_a_book (x0 : List Int) (x1 : D) (x2 : D) : FR RTs (Q.law_a_book [.sc x0, .p x1, .p x2]) (P.law_a_book x0 x1 x2) := fr_qc rfl
def P.cost_at (x0 : D) (x1 : D) : Option D := qc Q.cost_at [.p x0, .p x1]
theorem R.cost_at (x0 : D) (x1 : D) : FR RTs (Q.cost_at [.p x0, .p x1]) (P.cost_at x0 x1) := fr_qc rfl
def P.costs_of (x0 : D) : Option D := qc Q.costs_of [.p x0]
theorem R.costs_of (x0 : D) : FR RTs (Q.costs_of [.p x0]) (P.costs_of x0) := fr_qc rfl
def P.divisor (x0 : D) (x1 : D) : Option D := qc Q.divisor [.p x0, .p x1]
theorem R.divisor (x0 : D) (x1 : D) : FR RTs (Q.divisor [.p x0, .p x1]) (P.divisor x0 x1) := fr_qc rfl
def P.fraction (x0 : D) (x1 : D) : Option D := qc Q.fraction [.p x0, .p x1]
theorem R.fraction (x0 : D) (x1 : D) : FR RTs (Q.fraction [.p x0, .p x1]) (P.fraction x0 x1) := fr_qc rfl
def P.is_less (x0 : D) (x1 : D) : Option D := qc Q.is_less [.p x0, .p x1]
theorem R.is_less (x0 : D) (x1 : D) : FR RTs (Q.is_less [.p x0, .p x1]) (P.is_less x0 x1) := fr_qc rfl
def P.greater (x0 : D) (x1 : D) : Option D := qc Q.greater [.p x0, .p x1]
theorem R.greater (x0 : D) (x1 : D) : FR RTs (Q.greater [.p x0, .p x1]) (P.greater x0 x1) := fr_qc rfl
def P.way_between (x0 : D) (x1 : D) (x2 : D) : Option D := qc Q.way_between [.p x0, .p x1, .p x2]
theorem R.way_between (x0 : D) (x1 : D) (x2 : D) : FR RTs (Q.way_between [.p x0, .p x1, .p x2]) (P.way_between x0 x1 x2) := fr_qc rfl
def P.lesser (x0 : D) (x1 : D) : Option D := qc Q.lesser [.p x0, .p x1]
theorem R.lesser (x0 : D) (x1 : D) : FR RTs (Q.lesser [.p x0, .p x1]) (P.lesser x0 x1) := fr_qc rfl
def P.plus (x0 : D) (x1 : D) : Option D := qc Q.plus [.p x0, .p x1]
theorem R.plus (x0 : D) (x1 : D) : FR RTs (Q.plus [.p x0, .p x1]) (P.plus x0 x1) := fr_qc rfl
def P.minus (x0 : D) (x1 : D) : Option D := qc Q.minus [.p x0, .p x1]
theorem R.minus (x0 : D) (x1 : D) : FR RTs (Q.minus [.p x0, .p x1]) (P.minus x0 x1) := fr_qc rfl
def P.times (x0 : D) (x1 : D) : Option D := qc Q.times [.p x0, .p x1]
theorem R.times (x0 : D) (x1 : D) : FR RTs (Q.times [.p x0, .p x1]) (P.times x0 x1) := fr_qc rfl
def P.over (x0 : D) (x1 : D) : Option D := qc Q.over [.p x0, .p x1]
theorem R.over (x0 : D) (x1 : D) : FR RTs (Q.over [.p x0, .p x1]) (P.over x0 x1) := fr_qc rfl
abbrev RT_round_back := RTo
def P.round_back_E1 (behind : D) (last : D) (many : D) (s : D) (j : Option T) : En := [some (.p behind), some (.p last), some (.p many), some (.p s), j, none]
def P.round_back_L1 (behind : D) (here_2 : D) (k : D) : Option (D) := (xdgetD (some behind) (some here_2)).bind fun here_3 => some here_3
theorem R.round_back_L1 (behind : D) (last : D) (many : D) (here_2 : D) (k : D) (jk : Option T) : SB Q.round_back_L1 [some (.p behind), some (.p last), some (.p many), some (.p here_2), some (.p k), none] (P.round_back_L1 behind here_2 k) (ZN (P.round_back_E1 behind last many)) := by
  unfold Q.round_back_L1 P.round_back_L1
  exact sb_one (sb_set (e_dgetD (e_var rfl) (e_var rfl)) (fun here_3 => sb_nil ⟨some (.p k), .inl rfl⟩))
def P.round_back_E2 (behind : D) (last : D) (many : D) (here_4 : D) (jk_2 : Option T) (s : List D) (j : Unit) : En := [some (.p behind), some (.p last), some (.p many), some (.p here_4), jk_2, some (own1 s)]
def P.round_back_L2 (behind : D) (told_2 : List D) : Option (List D) := (some (.int 0)).bind fun l => (xdgetD (some behind) (xop idxT (some (.list told_2)) (some (.int 0)))).bind fun y => (insL told_2 l y).bind fun told_3 => some told_3
theorem R.round_back_L2 (behind : D) (last : D) (many : D) (here_4 : D) (jk_2 : Option T) (told_2 : List D) : SB Q.round_back_L2 [some (.p behind), some (.p last), some (.p many), some (.p here_4), jk_2, some (own1 told_2)] (P.round_back_L2 behind told_2) (ZN (P.round_back_E2 behind last many here_4 jk_2)) := by
  unfold Q.round_back_L2 P.round_back_L2
  exact sb_one (sb_insert rfl rfl (e_c) (e_dgetD (e_var rfl) (e_opw v2_ix (e_ow rfl) (EG.w (e_c)))) (fun told_3 => sb_nil ⟨(), .inl rfl⟩))
def P.round_back_C2 (behind : D) (here_4 : D) (told_2 : List D) : Option Bool := xbool (xop M.neT (xdgetD (some behind) (xop idxT (some (.list told_2)) (some (.int 0)))) (some here_4))
def P.round_back (behind : D) (last : D) (many : D) : Option (D) := (some last).bind fun here => (irng1 (some many)).bind fun ds => (fold (fun s d => P.round_back_L1 behind s d) ds here).bind fun here_4 => (xseq [some here_4]).bind fun told => (whl (fun s => P.round_back_C2 behind here_4 s) (fun s => P.round_back_L2 behind s) FUEL told).bind fun told_4 => some ((.list told_4))
theorem R.round_back (behind : D) (last : D) (many : D) : FR (RT_round_back) (Q.round_back [.p behind, .p last, .p many]) (P.round_back behind last many) := by
  unfold Q.round_back P.round_back
  exact run_fr (show SB _ [some (.p behind), some (.p last), some (.p many), none, none, none] _ _ from sb_set (e_var rfl) (fun here => show SB _ [some (.p behind), some (.p last), some (.p many), some (.p here), none, none] _ _ from sb_for (enc := P.round_back_E1 behind last many) (j0 := none) (i_rng1 (e_var rfl)) rfl (stepN (fun s j d => R.round_back_L1 behind last many s d j)) (fun here_4 jj_2 => show SB _ [some (.p behind), some (.p last), some (.p many), some (.p here_4), jj_2, none] _ _ from sb_setF (f_lst (af_cons (e_var rfl) (a_nil))) (fun told => show SB _ [some (.p behind), some (.p last), some (.p many), some (.p here_4), jj_2, some (own1 told)] _ _ from sb_whl (enc := P.round_back_E2 behind last many here_4 jj_2) (j0 := ()) rfl (fun s j => by unfold P.round_back_C2; exact b_op (e_op (e_dgetD (e_var rfl) (e_opw v2_ix (e_ow rfl) (EG.w (e_c)))) (e_var rfl))) (fun s j => R.round_back_L2 behind last many here_4 jj_2 s) (fun told_4 jj => show SB _ [some (.p behind), some (.p last), some (.p many), some (.p here_4), jj_2, some (own1 told_4)] _ _ from sb_one (sb_retV rfl (.inl ⟨_, rfl, ⟨_, rfl, rfl⟩⟩)))))))
def RT_step_worth (al_worths : Addr) (r : (D) × (List D)) (t : T) : Prop := t = .io (.p r.1) [.rf al_worths (own1 r.2)]
def P.step_worth (kind : D) (costs : D) (worths : List D) (one : D) (other : D) : Option ((D) × (List D)) := xif (xbool (xop M.eqT (some kind) (some (.str "even")))) ((ap2 P.plus (xop idxT (some (.list worths)) (some one)) (xtup [xop subT (xop idxT (xop idxT (some costs) (some one)) (some other)) (xop idxT (xop idxT (some costs) (some one)) (some one)), some (.int 1)])).map fun d => (d, worths)) ((ap2 P.over (ap2 P.times (xop idxT (some (.list worths)) (some one)) (xop idxT (xop idxT (some costs) (some one)) (some other))) (xop idxT (xop idxT (some costs) (some one)) (some one))).map fun d => (d, worths))
theorem R.step_worth (kind : D) (costs : D) (worths : List D) (one : D) (other : D) (al_worths : Addr) : FR (RT_step_worth al_worths) (Q.step_worth [.p kind, .p costs, .rf al_worths (own1 worths), .p one, .p other]) (P.step_worth kind costs worths one other) := by
  unfold Q.step_worth P.step_worth
  exact run_io (by decide) (show SB _ [some (.p kind), some (.p costs), some (.rf al_worths (own1 worths)), some (.p one), some (.p other)] _ _ from sb_if (b_op (e_op (e_var rfl) (e_c))) (sb_retIO (k := fun d => (d, worths)) (e_call2 (e_opw v2_ix (e_ow rfl) (EG.w (e_var rfl))) (e_tup (a_cons (e_op (e_op (e_op (e_var rfl) (e_var rfl)) (e_var rfl)) (e_op (e_op (e_var rfl) (e_var rfl)) (e_var rfl))) (a_cons (e_c) (a_nil)))) fz_p fz_p (fun a b => R.plus a b)) (by decide) rfl (fun d => .inl ⟨_, rfl, rfl⟩)) (sb_skip (show SB _ [some (.p kind), some (.p costs), some (.rf al_worths (own1 worths)), some (.p one), some (.p other)] _ _ from sb_one (sb_retIO (k := fun d => (d, worths)) (e_call2 (e_call2 (e_opw v2_ix (e_ow rfl) (EG.w (e_var rfl))) (e_op (e_op (e_var rfl) (e_var rfl)) (e_var rfl)) fz_p fz_p (fun a b => R.times a b)) (e_op (e_op (e_var rfl) (e_var rfl)) (e_var rfl)) fz_p fz_p (fun a b => R.over a b)) (by decide) rfl (fun d => .inl ⟨_, rfl, rfl⟩)))))
def RT_lowered (al_worths : Addr) (al_behind : Addr) (r : (D) × (List D) × (List (Key × D))) (t : T) : Prop := t = .io (.p r.1) [.rf al_worths (own1 r.2.1), .rf al_behind (.md r.2.2)]
def P.lowered_E1 (kind : D) (costs : D) (al_worths : Addr) (al_behind : Addr) (s : (List D) × (List (Key × D)) × (D)) (j : (Option T) × (Option T) × (Option T)) : En := [some (.p kind), some (.p costs), some (.rf al_worths (own1 s.1)), some (.rf al_behind (.md s.2.1)), some (.p s.2.2), j.1, j.2.1, j.2.2]
def P.lowered_E2 (kind : D) (costs : D) (al_worths : Addr) (al_behind : Addr) (one : D) (s : (List D) × (List (Key × D)) × (D)) (j : (Option T) × (Option T)) : En := [some (.p kind), some (.p costs), some (.rf al_worths (own1 s.1)), some (.rf al_behind (.md s.2.1)), some (.p s.2.2), some (.p one), j.1, j.2]
def P.lowered_E3 (kind : D) (costs : D) (al_worths : Addr) (al_behind : Addr) (one : D) (other : D) (r : (D) × (List D)) (s : (List D) × (List (Key × D)) × (D)) (j : Unit) : En := [some (.p kind), some (.p costs), some (.rf al_worths (own1 s.1)), some (.rf al_behind (.md s.2.1)), some (.p s.2.2), some (.p one), some (.p other), some (.p r.1)]
def P.lowered_L1 (kind : D) (costs : D) (one : D) (worths_3 : List D) (behind_3 : List (Key × D)) (last_3 : D) (other : D) : Option ((List D) × (List (Key × D)) × (D)) := (xpair (some kind) (xpair (some costs) (xpair (some one) (xpair (some other) (some ()))))).bind fun a => (P.step_worth a.1 a.2.1 worths_3 a.2.2.1 a.2.2.2.1).bind fun r => (xif (xbool (ap2 P.is_less (some r.1) (xop idxT (some (.list r.2)) (some other)))) ((some other).bind fun l => (some r.1).bind fun y => (setL r.2 l y).bind fun worths_4 => (some one).bind fun y => (some other).bind fun l => (putP behind_3 l y).bind fun behind_4 => (some other).bind fun last_4 => some (worths_4, behind_4, last_4)) (some (r.2, behind_3, last_3))).bind fun v => some ((v.1, v.2.1, v.2.2))
theorem R.lowered_L1 (kind : D) (costs : D) (al_worths : Addr) (al_behind : Addr) (one : D) (worths_3 : List D) (behind_3 : List (Key × D)) (last_3 : D) (other : D) (jother_2 : Option T) (jthere_2 : Option T) : SB Q.lowered_L1 [some (.p kind), some (.p costs), some (.rf al_worths (own1 worths_3)), some (.rf al_behind (.md behind_3)), some (.p last_3), some (.p one), some (.p other), jthere_2] (P.lowered_L1 kind costs one worths_3 behind_3 last_3 other) (ZN (P.lowered_E2 kind costs al_worths al_behind one)) := by
  unfold Q.lowered_L1 P.lowered_L1
  exact sb_callIO (res := fun (r : (D) × (List D)) => r.1) (ous := fun (r : (D) × (List D)) => [own1 r.2]) (fin := fun (r : (D) × (List D)) => [some (.p kind), some (.p costs), some (.rf al_worths (own1 r.2)), some (.rf al_behind (.md behind_3)), some (.p last_3), some (.p one), some (.p other), some (.p r.1)]) (aix_ex (e_var rfl) (aix_ex (e_var rfl) (aix_sl rfl rfl (aix_ex (e_var rfl) (aix_ex (e_var rfl) (aix_nil)))))) (by decide) (fun _ => rfl) (fun a r al h hl => by obtain ⟨al0, rfl⟩ := len1_eq hl; obtain ⟨t, h1, h2⟩ := R.step_worth a.1 a.2.1 worths_3 a.2.2.1 a.2.2.2.1 al0 r h; exact h1.trans (congrArg some h2)) (fun _ => rfl) (fun r => show SB _ [some (.p kind), some (.p costs), some (.rf al_worths (own1 r.2)), some (.rf al_behind (.md behind_3)), some (.p last_3), some (.p one), some (.p other), some (.p r.1)] _ _ from sb_one (sb_ifJ (enc := P.lowered_E3 kind costs al_worths al_behind one other r) (b_val (e_call2 (e_var rfl) (e_opw v2_ix (e_ow rfl) (EG.w (e_var rfl))) fz_p fz_p (fun a b => R.is_less a b))) (sb_setIx rfl rfl (e_var rfl) (e_var rfl) (fun worths_4 => show SB _ [some (.p kind), some (.p costs), some (.rf al_worths (own1 worths_4)), some (.rf al_behind (.md behind_3)), some (.p last_3), some (.p one), some (.p other), some (.p r.1)] _ _ from sb_dput rfl rfl (e_var rfl) (e_var rfl) (fun behind_4 => show SB _ [some (.p kind), some (.p costs), some (.rf al_worths (own1 worths_4)), some (.rf al_behind (.md behind_4)), some (.p last_3), some (.p one), some (.p other), some (.p r.1)] _ _ from sb_one (sb_set (e_var rfl) (fun last_4 => sb_nil ⟨(), rfl⟩))))) (sb_nil ⟨(), rfl⟩) (fun v jj => sb_nil ⟨(some (.p other), some (.p r.1)), .inl rfl⟩)))
def P.lowered_L2 (costs : D) (kind : D) (worths_2 : List D) (behind_2 : List (Key × D)) (last_2 : D) (one : D) : Option ((List D) × (List (Key × D)) × (D)) := (irng1 (xf1 lenT (some costs))).bind fun ds => (fold (fun s d => P.lowered_L1 kind costs one s.1 s.2.1 s.2.2 d) ds ((worths_2, behind_2, last_2))).bind fun v_2 => some ((v_2.1, v_2.2.1, v_2.2.2))
theorem R.lowered_L2 (kind : D) (costs : D) (al_worths : Addr) (al_behind : Addr) (worths_2 : List D) (behind_2 : List (Key × D)) (last_2 : D) (one : D) (jone : Option T) (jother : Option T) (jthere : Option T) : SB Q.lowered_L2 [some (.p kind), some (.p costs), some (.rf al_worths (own1 worths_2)), some (.rf al_behind (.md behind_2)), some (.p last_2), some (.p one), jother, jthere] (P.lowered_L2 costs kind worths_2 behind_2 last_2 one) (ZN (P.lowered_E1 kind costs al_worths al_behind)) := by
  unfold Q.lowered_L2 P.lowered_L2
  exact sb_one (sb_for (enc := P.lowered_E2 kind costs al_worths al_behind one) (j0 := (jother, jthere)) (i_rng1 (e_f1 (e_var rfl))) rfl (stepN (fun s j d => R.lowered_L1 kind costs al_worths al_behind one s.1 s.2.1 s.2.2 d j.1 j.2)) (fun v_2 jj_2 => sb_nil ⟨(some (.p one), jj_2.1, jj_2.2), .inl rfl⟩))
def P.lowered (kind : D) (costs : D) (worths : List D) (behind : List (Key × D)) : Option ((D) × (List D) × (List (Key × D))) := (some .none).bind fun last => (irng1 (xf1 lenT (some costs))).bind fun ds => (fold (fun s d => P.lowered_L2 costs kind s.1 s.2.1 s.2.2 d) ds ((worths, behind, last))).bind fun v_3 => (some v_3.2.2).map fun d => (d, v_3.1, v_3.2.1)
theorem R.lowered (kind : D) (costs : D) (worths : List D) (behind : List (Key × D)) (al_worths : Addr) (al_behind : Addr) : FR (RT_lowered al_worths al_behind) (Q.lowered [.p kind, .p costs, .rf al_worths (own1 worths), .rf al_behind (.md behind)]) (P.lowered kind costs worths behind) := by
  unfold Q.lowered P.lowered
  exact run_io (by decide) (show SB _ [some (.p kind), some (.p costs), some (.rf al_worths (own1 worths)), some (.rf al_behind (.md behind)), none, none, none, none] _ _ from sb_set (e_c) (fun last => show SB _ [some (.p kind), some (.p costs), some (.rf al_worths (own1 worths)), some (.rf al_behind (.md behind)), some (.p last), none, none, none] _ _ from sb_for (enc := P.lowered_E1 kind costs al_worths al_behind) (j0 := (none, none, none)) (i_rng1 (e_f1 (e_var rfl))) rfl (stepN (fun s j d => R.lowered_L2 kind costs al_worths al_behind s.1 s.2.1 s.2.2 d j.1 j.2.1 j.2.2)) (fun v_3 jj_3 => show SB _ [some (.p kind), some (.p costs), some (.rf al_worths (own1 v_3.1)), some (.rf al_behind (.md v_3.2.1)), some (.p v_3.2.2), jj_3.1, jj_3.2.1, jj_3.2.2] _ _ from sb_one (sb_retIO (k := fun d => (d, v_3.1, v_3.2.1)) (e_var rfl) (by decide) rfl (fun d => .inl ⟨_, rfl, rfl⟩)))))
abbrev RT_open_ways := RTo
def P.open_ways_E1 (costs : D) (many : D) (s : List D) (j : Option T) : En := [some (.p costs), some (.p many), some (own1 s), j, none]
def P.open_ways_L1 (costs : D) (many : D) (told_2 : List D) (k : D) : Option (List D) := (xmap (fun j_v => xmand (xop M.neT (some j_v) (some k)) (xop leT (xop idxT (xop idxT (some costs) (some k)) (some j_v)) (xop idxT (xop idxT (some costs) (some k)) (some k)))) (iseq (some many))).bind fun y => (apd told_2 y).bind fun told_3 => some told_3
theorem R.open_ways_L1 (costs : D) (many : D) (told_2 : List D) (k : D) (jk : Option T) : SB Q.open_ways_L1 [some (.p costs), some (.p many), some (own1 told_2), some (.p k), none] (P.open_ways_L1 costs many told_2 k) (ZN (P.open_ways_E1 costs many)) := by
  unfold Q.open_ways_L1 P.open_ways_L1
  exact sb_one (sb_append rfl rfl (e_map (i_seqB (EG.w (e_var rfl))) (fun j_v => e_and (e_op (e_var rfl) (e_var rfl)) (e_op (e_op (e_op (e_var rfl) (e_var rfl)) (e_var rfl)) (e_op (e_op (e_var rfl) (e_var rfl)) (e_var rfl))))) (fun told_3 => sb_nil ⟨some (.p k), .inl rfl⟩))
def P.open_ways (costs : D) : Option (D) := (xlistR (xf1 lenT (some costs))).bind fun many => (xseq []).bind fun told => (iseq (some many)).bind fun ds => (fold (fun s d => P.open_ways_L1 costs many s d) ds told).bind fun told_4 => some ((.list told_4))
theorem R.open_ways (costs : D) : FR (RT_open_ways) (Q.open_ways [.p costs]) (P.open_ways costs) := by
  unfold Q.open_ways P.open_ways
  exact run_fr (show SB _ [some (.p costs), none, none, none, none] _ _ from sb_set (e_listR (e_f1 (e_var rfl))) (fun many => show SB _ [some (.p costs), some (.p many), none, none, none] _ _ from sb_setF (f_lst (a_nil)) (fun told => show SB _ [some (.p costs), some (.p many), some (own1 told), none, none] _ _ from sb_for (enc := P.open_ways_E1 costs many) (j0 := none) (i_seq (e_var rfl)) rfl (stepN (fun s j d => R.open_ways_L1 costs many s d j)) (fun told_4 jj => show SB _ [some (.p costs), some (.p many), some (own1 told_4), jj, none] _ _ from sb_one (sb_retV rfl (.inl ⟨_, rfl, ⟨_, rfl, rfl⟩⟩))))))
abbrev RT_barring_round := RTp
def P.barring_round_E1 (costs : D) (ways : D) (s : Unit) (j : (Option T) × (Option T) × (Option T)) : En := [some (.p costs), some (.p ways), j.1, j.2.1, j.2.2]
def P.barring_round_E2 (costs : D) (ways : D) (k : D) (s : Unit) (j : (Option T) × (Option T)) : En := [some (.p costs), some (.p ways), some (.p k), j.1, j.2]
def P.barring_round_L1 (costs : D) (k : D) (ways : D) (j_v : D) : Option (Ct (Unit) (D)) := xif (xbool (xop ltT (xop idxT (xop idxT (some costs) (some k)) (some j_v)) (xop idxT (xop idxT (some costs) (some k)) (some k)))) ((ap3 P.way_between (some ways) (some j_v) (some k)).bind fun way => xif (xbool (xop notnT (some way) (some .none))) (some (.rt way)) (some (.nx (())))) (some (.nx (())))
theorem R.barring_round_L1 (costs : D) (ways : D) (k : D) (j_v : D) (jj_2 : Option T) (jway_2 : Option T) : SB Q.barring_round_L1 [some (.p costs), some (.p ways), some (.p k), some (.p j_v), jway_2] (P.barring_round_L1 costs k ways j_v) (ZC RT_barring_round (P.barring_round_E2 costs ways k)) := by
  unfold Q.barring_round_L1 P.barring_round_L1
  exact sb_one (sb_if (b_op (e_op (e_op (e_op (e_var rfl) (e_var rfl)) (e_var rfl)) (e_op (e_op (e_var rfl) (e_var rfl)) (e_var rfl)))) (sb_assoc (sb_set (e_call3 (e_var rfl) (e_var rfl) (e_var rfl) fz_p fz_p fz_p (fun a b c => R.way_between a b c)) (fun way => sb_if (b_op (e_op (e_var rfl) (e_c))) (sb_retV rfl ⟨_, rfl, rfl⟩) (sb_skip (sb_nil ⟨(some (.p j_v), some (.p way)), .inl rfl⟩))))) (sb_skip (sb_nil ⟨(some (.p j_v), jway_2), .inl rfl⟩)))
def P.barring_round_L2 (costs : D) (ways : D) (k : D) : Option (Ct (Unit) (D)) := (irng1 (xf1 lenT (some costs))).bind fun ds => aft (foldC (fun s d => P.barring_round_L1 costs k ways d) ds (())) Ct.rt fun v => some (.nx (()))
theorem R.barring_round_L2 (costs : D) (ways : D) (k : D) (jk : Option T) (jj : Option T) (jway : Option T) : SB Q.barring_round_L2 [some (.p costs), some (.p ways), some (.p k), jj, jway] (P.barring_round_L2 costs ways k) (ZC RT_barring_round (P.barring_round_E1 costs ways)) := by
  unfold Q.barring_round_L2 P.barring_round_L2
  exact sb_one (sb_forC (enc := P.barring_round_E2 costs ways k) (j0 := (jj, jway)) (RT := RT_barring_round) (i_rng1 (e_f1 (e_var rfl))) rfl (stepNC (fun s j d => R.barring_round_L1 costs ways k d j.1 j.2)) (fun d t h => ⟨t, rfl, h⟩) (fun v jj_4 => sb_nil ⟨(some (.p k), jj_4.1, jj_4.2), .inl rfl⟩))
def P.barring_round (costs : D) (ways : D) : Option (D) := (irng1 (xf1 lenT (some costs))).bind fun ds => aft (foldC (fun s d => P.barring_round_L2 costs ways d) ds (())) (fun d => d) fun v_2 => some .none
theorem R.barring_round (costs : D) (ways : D) : FR (RT_barring_round) (Q.barring_round [.p costs, .p ways]) (P.barring_round costs ways) := by
  unfold Q.barring_round P.barring_round
  exact run_fr (show SB _ [some (.p costs), some (.p ways), none, none, none] _ _ from sb_forC (enc := P.barring_round_E1 costs ways) (j0 := (none, none, none)) (RT := RT_barring_round) (i_rng1 (e_f1 (e_var rfl))) rfl (stepNC (fun s j d => R.barring_round_L2 costs ways d j.1 j.2.1 j.2.2)) (fun d t h => .inl ⟨t, rfl, h⟩) (fun v_2 jj_6 => show SB _ [some (.p costs), some (.p ways), jj_6.1, jj_6.2.1, jj_6.2.2] _ _ from sb_one (sb_ret0 (e_c) (fun d => .inl ⟨_, rfl, rfl⟩))))
abbrev RT_top_class := RTp
def P.top_class_E1 (ways : D) (left : D) (s : Unit) (j : (Option T) × (Option T)) : En := [some (.p ways), some (.p left), j.1, j.2, none]
def P.top_class_L1 (ways : D) (left : D) (k : D) : Option (Ct (Unit) (D)) := (xlc (fun j_v => xflt (xbool (xop notnT (ap3 P.way_between (some ways) (some j_v) (some k)) (some .none))) (some j_v)) (iseq (some left))).bind fun above => xif (xbool (xf1 allT (xmap (fun j_v_2 => xop notnT (ap3 P.way_between (some ways) (some k) (some j_v_2)) (some .none)) (iseq (some above))))) (some (.rt above)) (some (.nx (())))
theorem R.top_class_L1 (ways : D) (left : D) (k : D) (jk : Option T) (jabove : Option T) : SB Q.top_class_L1 [some (.p ways), some (.p left), some (.p k), jabove, none] (P.top_class_L1 ways left k) (ZC RT_top_class (P.top_class_E1 ways left)) := by
  unfold Q.top_class_L1 P.top_class_L1
  exact sb_set (e_lc (i_seqB (EG.w (e_var rfl))) (fun j_v => ⟨b_op (e_op (e_call3 (e_var rfl) (e_var rfl) (e_var rfl) fz_p fz_p fz_p (fun a b c => R.way_between a b c)) (e_c)), e_var rfl⟩)) (fun above => show SB _ [some (.p ways), some (.p left), some (.p k), some (.p above), none] _ _ from sb_one (sb_if (b_val (e_f1 (e_map (i_seqB (EG.w (e_var rfl))) (fun j_v_2 => e_op (e_call3 (e_var rfl) (e_var rfl) (e_var rfl) fz_p fz_p fz_p (fun a b c => R.way_between a b c)) (e_c))))) (sb_retV rfl ⟨_, rfl, rfl⟩) (sb_skip (sb_nil ⟨(some (.p k), some (.p above)), .inl rfl⟩))))
def P.top_class (ways : D) (left : D) : Option (D) := (iseq (some left)).bind fun ds => aft (foldC (fun s d => P.top_class_L1 ways left d) ds (())) (fun d => d) fun v => xlst []
theorem R.top_class (ways : D) (left : D) : FR (RT_top_class) (Q.top_class [.p ways, .p left]) (P.top_class ways left) := by
  unfold Q.top_class P.top_class
  exact run_fr (show SB _ [some (.p ways), some (.p left), none, none, none] _ _ from sb_forC (enc := P.top_class_E1 ways left) (j0 := (none, none)) (RT := RT_top_class) (i_seq (e_var rfl)) rfl (stepNC (fun s j d => R.top_class_L1 ways left d j.1 j.2)) (fun d t h => .inl ⟨t, rfl, h⟩) (fun v jj => show SB _ [some (.p ways), some (.p left), jj.1, jj.2, none] _ _ from sb_one (sb_ret0 (e_lst (a_nil)) (fun d => .inl ⟨_, rfl, rfl⟩))))
abbrev RT_any_wish := RTp
def P.any_wish_E1 (costs : D) (ways : D) (s : (List (Key × D)) × (List (Key × D)) × (D)) (j : (Option T) × (Option T) × (Option T) × (Option T) × (Option T) × (Option T)) : En := [some (.p costs), some (.p ways), some (.md s.1), some (.md s.2.1), some (.p s.2.2), j.1, j.2.1, j.2.2.1, j.2.2.2.1, j.2.2.2.2.1, j.2.2.2.2.2, none]
def P.any_wish_E2 (costs : D) (ways : D) (ka : Addr) (kod : Obj) (kkv : List (Key × V)) (worths_2 : List (Key × D)) (weights_2 : List (Key × D)) (left_2 : D) (level : D) (weight : D) (s : D) (j : (Option T) × (Option T) × (Option T)) : En := [some (.p costs), some (.p ways), some (.mk ka kod kkv worths_2), some (.md weights_2), some (.p left_2), some (.p level), some (.p s), some (.p weight), j.1, j.2.1, j.2.2, none]
def P.any_wish_E3 (costs : D) (ways : D) (ka : Addr) (kod : Obj) (kkv : List (Key × V)) (worths_2 : List (Key × D)) (weights_2 : List (Key × D)) (left_2 : D) (level : D) (weight : D) (j_v : D) (s : D) (j : (Option T) × (Option T)) : En := [some (.p costs), some (.p ways), some (.mk ka kod kkv worths_2), some (.md weights_2), some (.p left_2), some (.p level), some (.p s), some (.p weight), some (.p j_v), j.1, j.2, none]
def P.any_wish_L1 (worths_2 : List (Key × D)) (j_v : D) (weights_2 : List (Key × D)) (costs : D) (worth_3 : D) (k : D) : Option (D) := (ap2 P.plus (xdget worths_2 (some j_v)) (ap2 P.times (xdget weights_2 (some j_v)) (xop subT (xop idxT (xop idxT (some costs) (some j_v)) (some k)) (xop idxT (xop idxT (some costs) (some j_v)) (some j_v))))).bind fun there => (ap2 P.lesser (some worth_3) (ap2 P.lesser (some there) (xdget worths_2 (some j_v)))).bind fun worth_4 => some worth_4
theorem R.any_wish_L1 (costs : D) (ways : D) (ka : Addr) (kod : Obj) (kkv : List (Key × V)) (worths_2 : List (Key × D)) (weights_2 : List (Key × D)) (left_2 : D) (level : D) (weight : D) (j_v : D) (worth_3 : D) (k : D) (jk_3 : Option T) (jthere_3 : Option T) : SB Q.any_wish_L1 [some (.p costs), some (.p ways), some (.mk ka kod kkv worths_2), some (.md weights_2), some (.p left_2), some (.p level), some (.p worth_3), some (.p weight), some (.p j_v), some (.p k), jthere_3, none] (P.any_wish_L1 worths_2 j_v weights_2 costs worth_3 k) (ZN (P.any_wish_E3 costs ways ka kod kkv worths_2 weights_2 left_2 level weight j_v)) := by
  unfold Q.any_wish_L1 P.any_wish_L1
  exact sb_set (e_call2 (e_dget rfl rfl (e_var rfl)) (e_call2 (e_dget rfl rfl (e_var rfl)) (e_op (e_op (e_op (e_var rfl) (e_var rfl)) (e_var rfl)) (e_op (e_op (e_var rfl) (e_var rfl)) (e_var rfl))) fz_p fz_p (fun a b => R.times a b)) fz_p fz_p (fun a b => R.plus a b)) (fun there => show SB _ [some (.p costs), some (.p ways), some (.mk ka kod kkv worths_2), some (.md weights_2), some (.p left_2), some (.p level), some (.p worth_3), some (.p weight), some (.p j_v), some (.p k), some (.p there), none] _ _ from sb_one (sb_set (e_call2 (e_var rfl) (e_call2 (e_var rfl) (e_dget rfl rfl (e_var rfl)) fz_p fz_p (fun a b => R.lesser a b)) fz_p fz_p (fun a b => R.lesser a b)) (fun worth_4 => sb_nil ⟨(some (.p k), some (.p there)), .inl rfl⟩)))
def P.any_wish_L2 (level : D) (worths_2 : List (Key × D)) (weights_2 : List (Key × D)) (costs : D) (worth_2 : D) (j_v : D) : Option (D) := (iseq (some level)).bind fun ds => (fold (fun s d => P.any_wish_L1 worths_2 j_v weights_2 costs s d) ds worth_2).bind fun worth_5 => some worth_5
theorem R.any_wish_L2 (costs : D) (ways : D) (ka : Addr) (kod : Obj) (kkv : List (Key × V)) (worths_2 : List (Key × D)) (weights_2 : List (Key × D)) (left_2 : D) (level : D) (weight : D) (worth_2 : D) (j_v : D) (jj_2 : Option T) (jk_2 : Option T) (jthere_2 : Option T) : SB Q.any_wish_L2 [some (.p costs), some (.p ways), some (.mk ka kod kkv worths_2), some (.md weights_2), some (.p left_2), some (.p level), some (.p worth_2), some (.p weight), some (.p j_v), jk_2, jthere_2, none] (P.any_wish_L2 level worths_2 weights_2 costs worth_2 j_v) (ZN (P.any_wish_E2 costs ways ka kod kkv worths_2 weights_2 left_2 level weight)) := by
  unfold Q.any_wish_L2 P.any_wish_L2
  exact sb_one (sb_for (enc := P.any_wish_E3 costs ways ka kod kkv worths_2 weights_2 left_2 level weight j_v) (j0 := (jk_2, jthere_2)) (i_seq (e_var rfl)) rfl (stepN (fun s j d => R.any_wish_L1 costs ways ka kod kkv worths_2 weights_2 left_2 level weight j_v s d j.1 j.2)) (fun worth_5 jj_3 => sb_nil ⟨(some (.p j_v), jj_3.1, jj_3.2), .inl rfl⟩))
def P.any_wish_E4 (costs : D) (ways : D) (ka_2 : Addr) (kod_2 : Obj) (kkv_2 : List (Key × V)) (worths_2 : List (Key × D)) (weights_2 : List (Key × D)) (left_2 : D) (level : D) (worth_6 : D) (s : D) (j : (Option T) × (Option T)) : En := [some (.p costs), some (.p ways), some (.mk ka_2 kod_2 kkv_2 worths_2), some (.md weights_2), some (.p left_2), some (.p level), some (.p worth_6), some (.p s), j.1, j.2, none, none]
def P.any_wish_E5 (costs : D) (ways : D) (ka_2 : Addr) (kod_2 : Obj) (kkv_2 : List (Key × V)) (worths_2 : List (Key × D)) (weights_2 : List (Key × D)) (left_2 : D) (level : D) (worth_6 : D) (j_v_2 : D) (s : D) (j : Option T) : En := [some (.p costs), some (.p ways), some (.mk ka_2 kod_2 kkv_2 worths_2), some (.md weights_2), some (.p left_2), some (.p level), some (.p worth_6), some (.p s), some (.p j_v_2), j, none, none]
def P.any_wish_L3 (worths_2 : List (Key × D)) (j_v_2 : D) (worth_6 : D) (costs : D) (weight_3 : D) (k_2 : D) : Option (D) := (ap2 P.greater (some weight_3) (ap2 P.over (ap2 P.minus (xdget worths_2 (some j_v_2)) (some worth_6)) (xop subT (xop idxT (xop idxT (some costs) (some k_2)) (some j_v_2)) (xop idxT (xop idxT (some costs) (some k_2)) (some k_2))))).bind fun weight_4 => some weight_4
theorem R.any_wish_L3 (costs : D) (ways : D) (ka_2 : Addr) (kod_2 : Obj) (kkv_2 : List (Key × V)) (worths_2 : List (Key × D)) (weights_2 : List (Key × D)) (left_2 : D) (level : D) (worth_6 : D) (j_v_2 : D) (weight_3 : D) (k_2 : D) (jk_6 : Option T) : SB Q.any_wish_L3 [some (.p costs), some (.p ways), some (.mk ka_2 kod_2 kkv_2 worths_2), some (.md weights_2), some (.p left_2), some (.p level), some (.p worth_6), some (.p weight_3), some (.p j_v_2), some (.p k_2), none, none] (P.any_wish_L3 worths_2 j_v_2 worth_6 costs weight_3 k_2) (ZN (P.any_wish_E5 costs ways ka_2 kod_2 kkv_2 worths_2 weights_2 left_2 level worth_6 j_v_2)) := by
  unfold Q.any_wish_L3 P.any_wish_L3
  exact sb_one (sb_set (e_call2 (e_var rfl) (e_call2 (e_call2 (e_dget rfl rfl (e_var rfl)) (e_var rfl) fz_p fz_p (fun a b => R.minus a b)) (e_op (e_op (e_op (e_var rfl) (e_var rfl)) (e_var rfl)) (e_op (e_op (e_var rfl) (e_var rfl)) (e_var rfl))) fz_p fz_p (fun a b => R.over a b)) fz_p fz_p (fun a b => R.greater a b)) (fun weight_4 => sb_nil ⟨some (.p k_2), .inl rfl⟩))
def P.any_wish_L4 (level : D) (worths_2 : List (Key × D)) (worth_6 : D) (costs : D) (weight_2 : D) (j_v_2 : D) : Option (D) := (iseq (some level)).bind fun ds => (fold (fun s d => P.any_wish_L3 worths_2 j_v_2 worth_6 costs s d) ds weight_2).bind fun weight_5 => some weight_5
theorem R.any_wish_L4 (costs : D) (ways : D) (ka_2 : Addr) (kod_2 : Obj) (kkv_2 : List (Key × V)) (worths_2 : List (Key × D)) (weights_2 : List (Key × D)) (left_2 : D) (level : D) (worth_6 : D) (weight_2 : D) (j_v_2 : D) (jj_4 : Option T) (jk_5 : Option T) : SB Q.any_wish_L4 [some (.p costs), some (.p ways), some (.mk ka_2 kod_2 kkv_2 worths_2), some (.md weights_2), some (.p left_2), some (.p level), some (.p worth_6), some (.p weight_2), some (.p j_v_2), jk_5, none, none] (P.any_wish_L4 level worths_2 worth_6 costs weight_2 j_v_2) (ZN (P.any_wish_E4 costs ways ka_2 kod_2 kkv_2 worths_2 weights_2 left_2 level worth_6)) := by
  unfold Q.any_wish_L4 P.any_wish_L4
  exact sb_one (sb_for (enc := P.any_wish_E5 costs ways ka_2 kod_2 kkv_2 worths_2 weights_2 left_2 level worth_6 j_v_2) (j0 := jk_5) (i_seq (e_var rfl)) rfl (stepN (fun s j d => R.any_wish_L3 costs ways ka_2 kod_2 kkv_2 worths_2 weights_2 left_2 level worth_6 j_v_2 s d j)) (fun weight_5 jj_5 => sb_nil ⟨(some (.p j_v_2), jj_5), .inl rfl⟩))
def P.any_wish_E6 (costs : D) (ways : D) (left_3 : D) (level : D) (worth_6 : D) (weight_6 : D) (s : (List (Key × D)) × (List (Key × D))) (j : Option T) : En := [some (.p costs), some (.p ways), some (.md s.1), some (.md s.2), some (.p left_3), some (.p level), some (.p worth_6), some (.p weight_6), none, j, none, none]
def P.any_wish_L5 (worth_6 : D) (weight_6 : D) (worths_3 : List (Key × D)) (weights_3 : List (Key × D)) (k_4 : D) : Option ((List (Key × D)) × (List (Key × D))) := (some worth_6).bind fun y => (some k_4).bind fun l => (putP worths_3 l y).bind fun worths_4 => (some weight_6).bind fun y => (some k_4).bind fun l => (putP weights_3 l y).bind fun weights_4 => some ((worths_4, weights_4))
theorem R.any_wish_L5 (costs : D) (ways : D) (left_3 : D) (level : D) (worth_6 : D) (weight_6 : D) (worths_3 : List (Key × D)) (weights_3 : List (Key × D)) (k_4 : D) (jk_8 : Option T) : SB Q.any_wish_L5 [some (.p costs), some (.p ways), some (.md worths_3), some (.md weights_3), some (.p left_3), some (.p level), some (.p worth_6), some (.p weight_6), none, some (.p k_4), none, none] (P.any_wish_L5 worth_6 weight_6 worths_3 weights_3 k_4) (ZN (P.any_wish_E6 costs ways left_3 level worth_6 weight_6)) := by
  unfold Q.any_wish_L5 P.any_wish_L5
  exact sb_dput rfl rfl (e_var rfl) (e_var rfl) (fun worths_4 => show SB _ [some (.p costs), some (.p ways), some (.md worths_4), some (.md weights_3), some (.p left_3), some (.p level), some (.p worth_6), some (.p weight_6), none, some (.p k_4), none, none] _ _ from sb_one (sb_dput rfl rfl (e_var rfl) (e_var rfl) (fun weights_4 => sb_nil ⟨some (.p k_4), .inl rfl⟩)))
def P.any_wish_L6 (ways : D) (costs : D) (worths_2 : List (Key × D)) (weights_2 : List (Key × D)) (left_2 : D) : Option ((List (Key × D)) × (List (Key × D)) × (D)) := (ap2 P.top_class (some ways) (some left_2)).bind fun level => (xtup [some (.int 1), some (.int 1)]).bind fun worth => (xtup [some (.int 1), some (.int 1)]).bind fun weight => (fold (fun s d => P.any_wish_L2 level worths_2 weights_2 costs s d) (dkeys worths_2) worth).bind fun worth_6 => (fold (fun s d => P.any_wish_L4 level worths_2 worth_6 costs s d) (dkeys worths_2) weight).bind fun weight_6 => (xlc (fun k_3 => xflt (xbool (xop notInT (some k_3) (some level))) (some k_3)) (iseq (some left_2))).bind fun left_3 => (iseq (some level)).bind fun ds => (fold (fun s d => P.any_wish_L5 worth_6 weight_6 s.1 s.2 d) ds ((worths_2, weights_2))).bind fun v => some ((v.1, v.2, left_3))
theorem R.any_wish_L6 (costs : D) (ways : D) (worths_2 : List (Key × D)) (weights_2 : List (Key × D)) (left_2 : D) (jlevel : Option T) (jworth : Option T) (jweight : Option T) (jj : Option T) (jk : Option T) (jthere : Option T) : SB Q.any_wish_L6 [some (.p costs), some (.p ways), some (.md worths_2), some (.md weights_2), some (.p left_2), jlevel, jworth, jweight, jj, jk, jthere, none] (P.any_wish_L6 ways costs worths_2 weights_2 left_2) (ZN (P.any_wish_E1 costs ways)) := by
  unfold Q.any_wish_L6 P.any_wish_L6
  exact sb_set (e_call2 (e_var rfl) (e_var rfl) fz_p fz_p (fun a b => FR.ps (R.top_class a b))) (fun level => show SB _ [some (.p costs), some (.p ways), some (.md worths_2), some (.md weights_2), some (.p left_2), some (.p level), jworth, jweight, jj, jk, jthere, none] _ _ from sb_set (e_tup (a_cons (e_c) (a_cons (e_c) (a_nil)))) (fun worth => show SB _ [some (.p costs), some (.p ways), some (.md worths_2), some (.md weights_2), some (.p left_2), some (.p level), some (.p worth), jweight, jj, jk, jthere, none] _ _ from sb_set (e_tup (a_cons (e_c) (a_cons (e_c) (a_nil)))) (fun weight => show SB _ [some (.p costs), some (.p ways), some (.md worths_2), some (.md weights_2), some (.p left_2), some (.p level), some (.p worth), some (.p weight), jj, jk, jthere, none] _ _ from sb_forW (x := worths_2) (en := fun ka kod kkv => P.any_wish_E2 costs ways ka kod kkv worths_2 weights_2 left_2 level weight) (j0 := (jj, jk, jthere)) (fin := fun worth_6 => [some (.p costs), some (.p ways), some (.md worths_2), some (.md weights_2), some (.p left_2), some (.p level), some (.p worth_6), some (.p weight), none, none, none, none]) rfl (by decide) (fun ka kod kkv => rfl) (fun _ _ _ _ _ => rfl) (fun ka kod kkv s j d => R.any_wish_L2 costs ways ka kod kkv worths_2 weights_2 left_2 level weight s d j.1 j.2.1 j.2.2) (fun _ _ _ _ _ => rfl) (fun _ => rfl) (fun worth_6 => show SB _ [some (.p costs), some (.p ways), some (.md worths_2), some (.md weights_2), some (.p left_2), some (.p level), some (.p worth_6), some (.p weight), none, none, none, none] _ _ from sb_forW (x := worths_2) (en := fun ka_2 kod_2 kkv_2 => P.any_wish_E4 costs ways ka_2 kod_2 kkv_2 worths_2 weights_2 left_2 level worth_6) (j0 := (none, none)) (fin := fun weight_6 => [some (.p costs), some (.p ways), some (.md worths_2), some (.md weights_2), some (.p left_2), some (.p level), some (.p worth_6), some (.p weight_6), none, none, none, none]) rfl (by decide) (fun ka_2 kod_2 kkv_2 => rfl) (fun _ _ _ _ _ => rfl) (fun ka_2 kod_2 kkv_2 s j d => R.any_wish_L4 costs ways ka_2 kod_2 kkv_2 worths_2 weights_2 left_2 level worth_6 s d j.1 j.2) (fun _ _ _ _ _ => rfl) (fun _ => rfl) (fun weight_6 => show SB _ [some (.p costs), some (.p ways), some (.md worths_2), some (.md weights_2), some (.p left_2), some (.p level), some (.p worth_6), some (.p weight_6), none, none, none, none] _ _ from sb_set (e_lc (i_seqB (EG.w (e_var rfl))) (fun k_3 => ⟨b_op (e_op (e_var rfl) (e_var rfl)), e_var rfl⟩)) (fun left_3 => show SB _ [some (.p costs), some (.p ways), some (.md worths_2), some (.md weights_2), some (.p left_3), some (.p level), some (.p worth_6), some (.p weight_6), none, none, none, none] _ _ from sb_one (sb_for (enc := P.any_wish_E6 costs ways left_3 level worth_6 weight_6) (j0 := none) (i_seq (e_var rfl)) rfl (stepN (fun s j d => R.any_wish_L5 costs ways left_3 level worth_6 weight_6 s.1 s.2 d j)) (fun v jj_6 => sb_nil ⟨(some (.p level), some (.p worth_6), some (.p weight_6), none, jj_6, none), .inl rfl⟩))))))))
def P.any_wish_C6 (worths_2 : List (Key × D)) (weights_2 : List (Key × D)) (left_2 : D) : Option Bool := xbool (xop M.neT (some left_2) (xlst []))
def P.any_wish (costs : D) (ways : D) : Option (D) := (some []).bind fun worths => (some []).bind fun weights => (xlistR (xf1 lenT (some costs))).bind fun left => (whl (fun s => P.any_wish_C6 s.1 s.2.1 s.2.2) (fun s => P.any_wish_L6 ways costs s.1 s.2.1 s.2.2) FUEL ((worths, weights, left))).bind fun v_2 => (xlistR (xf1 lenT (some costs))).bind fun many => xtup [xmap (fun k_6 => xdget v_2.1 (some k_6)) (iseq (some many)), xmap (fun k_5 => xdget v_2.2.1 (some k_5)) (iseq (some many))]
theorem R.any_wish (costs : D) (ways : D) : FR (RT_any_wish) (Q.any_wish [.p costs, .p ways]) (P.any_wish costs ways) := by
  unfold Q.any_wish P.any_wish
  exact run_fr (show SB _ [some (.p costs), some (.p ways), none, none, none, none, none, none, none, none, none, none] _ _ from sb_setF (f_dnew) (fun worths => show SB _ [some (.p costs), some (.p ways), some (.md worths), none, none, none, none, none, none, none, none, none] _ _ from sb_setF (f_dnew) (fun weights => show SB _ [some (.p costs), some (.p ways), some (.md worths), some (.md weights), none, none, none, none, none, none, none, none] _ _ from sb_set (e_listR (e_f1 (e_var rfl))) (fun left => show SB _ [some (.p costs), some (.p ways), some (.md worths), some (.md weights), some (.p left), none, none, none, none, none, none, none] _ _ from sb_whl (enc := P.any_wish_E1 costs ways) (j0 := (none, none, none, none, none, none)) rfl (fun s j => by unfold P.any_wish_C6; exact b_op (e_op (e_var rfl) (e_lst (a_nil)))) (fun s j => R.any_wish_L6 costs ways s.1 s.2.1 s.2.2 j.1 j.2.1 j.2.2.1 j.2.2.2.1 j.2.2.2.2.1 j.2.2.2.2.2) (fun v_2 jj_8 => show SB _ [some (.p costs), some (.p ways), some (.md v_2.1), some (.md v_2.2.1), some (.p v_2.2.2), jj_8.1, jj_8.2.1, jj_8.2.2.1, jj_8.2.2.2.1, jj_8.2.2.2.2.1, jj_8.2.2.2.2.2, none] _ _ from sb_set (e_listR (e_f1 (e_var rfl))) (fun many => show SB _ [some (.p costs), some (.p ways), some (.md v_2.1), some (.md v_2.2.1), some (.p v_2.2.2), jj_8.1, jj_8.2.1, jj_8.2.2.1, jj_8.2.2.2.1, jj_8.2.2.2.2.1, jj_8.2.2.2.2.2, some (.p many)] _ _ from sb_one (sb_ret0 (e_tup (a_cons (e_map (i_seqB (EG.w (e_var rfl))) (fun k_6 => e_dget rfl rfl (e_var rfl))) (a_cons (e_map (i_seqB (EG.w (e_var rfl))) (fun k_5 => e_dget rfl rfl (e_var rfl))) (a_nil)))) (fun d => .inl ⟨_, rfl, rfl⟩))))))))
abbrev RT_told_any := RTp
def P.told_any (costs : D) : Option (D) := (ap1 P.open_ways (some costs)).bind fun ways => (ap2 P.barring_round (some costs) (some ways)).bind fun found => xif (xbool (xop notnT (some found) (some .none))) (xtup [some (.str "round"), some found]) (xtup [some (.str "wish"), ap2 P.any_wish (some costs) (some ways)])
theorem R.told_any (costs : D) : FR (RT_told_any) (Q.told_any [.p costs]) (P.told_any costs) := by
  unfold Q.told_any P.told_any
  exact run_fr (show SB _ [some (.p costs), none, none] _ _ from sb_set (e_call1 (e_var rfl) fz_p (fun a => FR.os (R.open_ways a))) (fun ways => show SB _ [some (.p costs), some (.p ways), none] _ _ from sb_set (e_call2 (e_var rfl) (e_var rfl) fz_p fz_p (fun a b => FR.ps (R.barring_round a b))) (fun found => show SB _ [some (.p costs), some (.p ways), some (.p found)] _ _ from sb_if (b_op (e_op (e_var rfl) (e_c))) (sb_ret0 (e_tup (a_cons (e_c) (a_cons (e_var rfl) (a_nil)))) (fun d => .inl ⟨_, rfl, rfl⟩)) (sb_skip (show SB _ [some (.p costs), some (.p ways), some (.p found)] _ _ from sb_one (sb_ret0 (e_tup (a_cons (e_c) (a_cons (e_call2 (e_var rfl) (e_var rfl) fz_p fz_p (fun a b => FR.ps (R.any_wish a b))) (a_nil)))) (fun d => .inl ⟨_, rfl, rfl⟩)))))))
abbrev RT_told_by := RTp
def P.told_by_E1 (book : D) (kind : D) (costs : D) (many : D) (s : (List D) × (List (Key × D)) × (Option D)) (j : (Option T) × (Option T)) : En := [some (.p book), some (.p kind), some (.p costs), some (.p many), some (own1 s.1), some (.md s.2.1), j.1, (s.2.2).map T.p, j.2, none]
def P.told_by_E2 (book : D) (kind : D) (costs : D) (many : D) (r : (D) × (List D) × (List (Key × D))) (turn : D) (s : D) (j : Unit) : En := [some (.p book), some (.p kind), some (.p costs), some (.p many), some (own1 r.2.1), some (.md r.2.2), some (.p turn), some (.p r.1), some (.p s), none]
def P.told_by_L1 (kind : D) (costs : D) (many : D) (worths_2 : List D) (behind_2 : List (Key × D)) (last : Option D) (turn : D) : Option (Ct ((List D) × (List (Key × D)) × (Option D)) (D)) := (xpair (some kind) (xpair (some costs) (some ()))).bind fun a => (P.lowered a.1 a.2.1 worths_2 behind_2).bind fun r => xif (xbool (xop isnT (some r.1) (some .none))) ((xop mulT (xlst [xtup [some (.int 1), some (.int 1)]]) (some many)).bind fun weights => (xif (xbool (xop M.eqT (some kind) (some (.str "scaled")))) ((xmap (fun k => ap2 P.over (xop idxT (some (.list r.2.1)) (some k)) (xop idxT (xop idxT (some costs) (some k)) (some k))) (irng1 (some many))).bind fun weights_2 => some weights_2) (some weights)).bind fun weights_3 => (xtup [some (.str "wish"), xtup [some ((.list r.2.1)), some weights_3]]).map .rt) (some (.nx ((r.2.1, r.2.2, (some r.1)))))
theorem R.told_by_L1 (book : D) (kind : D) (costs : D) (many : D) (worths_2 : List D) (behind_2 : List (Key × D)) (last : Option D) (turn : D) (jturn : Option T) (jweights : Option T) : SB Q.told_by_L1 [some (.p book), some (.p kind), some (.p costs), some (.p many), some (own1 worths_2), some (.md behind_2), some (.p turn), (last).map T.p, jweights, none] (P.told_by_L1 kind costs many worths_2 behind_2 last turn) (ZC RT_told_by (P.told_by_E1 book kind costs many)) := by
  unfold Q.told_by_L1 P.told_by_L1
  exact sb_callIO (res := fun (r : (D) × (List D) × (List (Key × D))) => r.1) (ous := fun (r : (D) × (List D) × (List (Key × D))) => [own1 r.2.1, .md r.2.2]) (fin := fun (r : (D) × (List D) × (List (Key × D))) => [some (.p book), some (.p kind), some (.p costs), some (.p many), some (own1 r.2.1), some (.md r.2.2), some (.p turn), some (.p r.1), jweights, none]) (aix_ex (e_var rfl) (aix_ex (e_var rfl) (aix_sl rfl rfl (aix_sl rfl rfl (aix_nil))))) (by decide) (fun _ => rfl) (fun a r al h hl => by obtain ⟨al0, al1, rfl⟩ := len2_eq hl; obtain ⟨t, h1, h2⟩ := R.lowered a.1 a.2.1 worths_2 behind_2 al0 al1 r h; exact h1.trans (congrArg some h2)) (fun _ => rfl) (fun r => show SB _ [some (.p book), some (.p kind), some (.p costs), some (.p many), some (own1 r.2.1), some (.md r.2.2), some (.p turn), some (.p r.1), jweights, none] _ _ from sb_one (sb_if (b_op (e_op (e_var rfl) (e_c))) (sb_assoc (sb_set (e_op (e_lst (a_cons (e_tup (a_cons (e_c) (a_cons (e_c) (a_nil)))) (a_nil))) (e_var rfl)) (fun weights => sb_assoc (sb_ifJ (enc := P.told_by_E2 book kind costs many r turn) (b_op (e_op (e_var rfl) (e_c))) (sb_one (sb_set (e_map (i_rng1 (e_var rfl)) (fun k => e_call2 (e_opw v2_ix (e_ow rfl) (EG.w (e_var rfl))) (e_op (e_op (e_var rfl) (e_var rfl)) (e_var rfl)) fz_p fz_p (fun a b => R.over a b))) (fun weights_2 => sb_nil ⟨(), rfl⟩))) (sb_nil ⟨(), rfl⟩) (fun weights_3 jj => sb_frzC rfl (snap_own1 _) (sb_ret (k := Ct.rt) (e_tup (a_cons (e_c) (a_cons (e_tup (a_cons (e_var rfl) (a_cons (e_var rfl) (a_nil)))) (a_nil)))) (fun d => ⟨_, rfl, rfl⟩))))))) (sb_skip (sb_nil ⟨(some (.p turn), jweights), .inl rfl⟩))))
def P.told_by (book : D) (kind : D) : Option (D) := (ap1 P.costs_of (some book)).bind fun costs => xif (xbool (xop M.eqT (some kind) (some (.str "any")))) (ap1 P.told_any (some costs)) ((xf1 lenT (some book)).bind fun many => (xrep (xlst [xtup [some (.int 1), some (.int 1)]]) (some many)).bind fun worths => (some []).bind fun behind => (irng1 (some many)).bind fun ds => aft (foldC (fun s d => P.told_by_L1 kind costs many s.1 s.2.1 s.2.2 d) ds ((worths, behind, none))) (fun d => d) fun v => xtup [some (.str "round"), ap3 P.round_back (some ((dD v.2.1))) (v.2.2) (some many)])
theorem R.told_by (book : D) (kind : D) : FR (RT_told_by) (Q.told_by [.p book, .p kind]) (P.told_by book kind) := by
  unfold Q.told_by P.told_by
  exact run_fr (show SB _ [some (.p book), some (.p kind), none, none, none, none, none, none, none, none] _ _ from sb_set (e_call1 (e_var rfl) fz_p (fun a => R.costs_of a)) (fun costs => show SB _ [some (.p book), some (.p kind), some (.p costs), none, none, none, none, none, none, none] _ _ from sb_if (b_op (e_op (e_var rfl) (e_c))) (sb_ret0 (e_call1 (e_var rfl) fz_p (fun a => FR.ps (R.told_any a))) (fun d => .inl ⟨_, rfl, rfl⟩)) (sb_skip (show SB _ [some (.p book), some (.p kind), some (.p costs), none, none, none, none, none, none, none] _ _ from sb_set (e_f1 (e_var rfl)) (fun many => show SB _ [some (.p book), some (.p kind), some (.p costs), some (.p many), none, none, none, none, none, none] _ _ from sb_setF (f_rep (e_lst (a_cons (e_tup (a_cons (e_c) (a_cons (e_c) (a_nil)))) (a_nil))) (e_var rfl)) (fun worths => show SB _ [some (.p book), some (.p kind), some (.p costs), some (.p many), some (own1 worths), none, none, none, none, none] _ _ from sb_setF (f_dnew) (fun behind => show SB _ [some (.p book), some (.p kind), some (.p costs), some (.p many), some (own1 worths), some (.md behind), none, none, none, none] _ _ from sb_forC (enc := P.told_by_E1 book kind costs many) (j0 := (none, none)) (RT := RT_told_by) (i_rng1 (e_var rfl)) rfl (stepNC (fun s j d => R.told_by_L1 book kind costs many s.1 s.2.1 s.2.2 d j.1 j.2)) (fun d t h => .inl ⟨t, rfl, h⟩) (fun v jj_2 => show SB _ [some (.p book), some (.p kind), some (.p costs), some (.p many), some (own1 v.1), some (.md v.2.1), jj_2.1, (v.2.2).map T.p, jj_2.2, none] _ _ from sb_frz rfl (rts_md _) (sb_one (sb_ret0 (e_tup (a_cons (e_c) (a_cons (e_call3 (e_var rfl) (e_may rfl) (e_var rfl) fz_p fz_p fz_p (fun a b c => FR.os (R.round_back a b c))) (a_nil)))) (fun d => .inl ⟨_, rfl, rfl⟩)))))))))))
abbrev RT_has_wish := RTp
def P.has_wish (book : D) (kind : D) : Option (D) := xop M.eqT (xop idxT (ap2 P.told_by (some book) (some kind)) (some (.int 0))) (some (.str "wish"))
theorem R.has_wish (book : D) (kind : D) : FR (RT_has_wish) (Q.has_wish [.p book, .p kind]) (P.has_wish book kind) := by
  unfold Q.has_wish P.has_wish
  exact run_fr (show SB _ [some (.p book), some (.p kind)] _ _ from sb_one (sb_ret0 (e_op (e_op (e_call2 (e_var rfl) (e_var rfl) fz_p fz_p (fun a b => FR.ps (R.told_by a b))) (e_c)) (e_c)) (fun d => .inl ⟨_, rfl, rfl⟩)))
abbrev RT_walks := RTo
def P.walks_E1 (costs : D) (many : D) (s : List D) (j : (Option T) × (Option T) × (Option T) × (Option T) × (Option T)) : En := [some (.p costs), some (.p many), some (own1 s), j.1, j.2.1, j.2.2.1, j.2.2.2.1, j.2.2.2.2]
def P.walks_E2 (costs : D) (many : D) (told_2 : List D) (turn : D) (s : List D) (j : (Option T) × (Option T) × (Option T)) : En := [some (.p costs), some (.p many), some (own1 told_2), some (.p turn), some (own1 s), j.1, j.2.1, j.2.2]
def P.walks_E3 (costs : D) (many : D) (told_2 : List D) (turn : D) (row_2 : List D) (there : D) (s : List D) (j : Option T) : En := [some (.p costs), some (.p many), some (own1 told_2), some (.p turn), some (own1 row_2), some (.p there), some (own1 s), j]
def P.walks_E4 (costs : D) (many : D) (told_2 : List D) (turn : D) (row_2 : List D) (there : D) (one : D) (s : List D) (j : Unit) : En := [some (.p costs), some (.p many), some (own1 told_2), some (.p turn), some (own1 row_2), some (.p there), some (own1 s), some (.p one)]
def P.walks_L1 (there : D) (told_2 : List D) (costs : D) (some_v_2 : List D) (one : D) : Option (List D) := (xif (xand (xbool (xop M.neT (some one) (some there))) (xbool (xop notnT (xop idxT (xop idxT (some (.list told_2)) (xneg (some (.int 1)))) (some one)) (some .none)))) ((xop subT (xop addT (xop idxT (xop idxT (some (.list told_2)) (xneg (some (.int 1)))) (some one)) (xop idxT (xop idxT (some costs) (some one)) (some there))) (xop idxT (xop idxT (some costs) (some one)) (some one))).bind fun y => (apd some_v_2 y).bind fun some_v_3 => some some_v_3) (some some_v_2)).bind fun some_v_4 => some some_v_4
theorem R.walks_L1 (costs : D) (many : D) (told_2 : List D) (turn : D) (row_2 : List D) (there : D) (some_v_2 : List D) (one : D) (jone_3 : Option T) : SB Q.walks_L1 [some (.p costs), some (.p many), some (own1 told_2), some (.p turn), some (own1 row_2), some (.p there), some (own1 some_v_2), some (.p one)] (P.walks_L1 there told_2 costs some_v_2 one) (ZN (P.walks_E3 costs many told_2 turn row_2 there)) := by
  unfold Q.walks_L1 P.walks_L1
  exact sb_one (sb_ifJ (enc := P.walks_E4 costs many told_2 turn row_2 there one) (b_and (b_op (e_op (e_var rfl) (e_var rfl))) (b_op (e_op (e_op (e_opw v2_ix (e_ow rfl) (EG.w (e_neg (e_c)))) (e_var rfl)) (e_c)))) (sb_one (sb_append rfl rfl (e_op (e_op (e_op (e_opw v2_ix (e_ow rfl) (EG.w (e_neg (e_c)))) (e_var rfl)) (e_op (e_op (e_var rfl) (e_var rfl)) (e_var rfl))) (e_op (e_op (e_var rfl) (e_var rfl)) (e_var rfl))) (fun some_v_3 => sb_nil ⟨(), rfl⟩))) (sb_nil ⟨(), rfl⟩) (fun some_v_4 jj => sb_nil ⟨some (.p one), .inl rfl⟩))
def P.walks_L2 (many : D) (told_2 : List D) (costs : D) (row_2 : List D) (there : D) : Option (List D) := (xseq []).bind fun some_v => (irng1 (some many)).bind fun ds => (fold (fun s d => P.walks_L1 there told_2 costs s d) ds some_v).bind fun some_v_5 => (xif (xbool (xop M.neT (some ((.list some_v_5))) (xlst []))) (xf1 minT (some ((.list some_v_5)))) (some .none)).bind fun y => (apd row_2 y).bind fun row_3 => some row_3
theorem R.walks_L2 (costs : D) (many : D) (told_2 : List D) (turn : D) (row_2 : List D) (there : D) (jthere_2 : Option T) (jsome_2 : Option T) (jone_2 : Option T) : SB Q.walks_L2 [some (.p costs), some (.p many), some (own1 told_2), some (.p turn), some (own1 row_2), some (.p there), jsome_2, jone_2] (P.walks_L2 many told_2 costs row_2 there) (ZN (P.walks_E2 costs many told_2 turn)) := by
  unfold Q.walks_L2 P.walks_L2
  exact sb_setF (f_lst (a_nil)) (fun some_v => show SB _ [some (.p costs), some (.p many), some (own1 told_2), some (.p turn), some (own1 row_2), some (.p there), some (own1 some_v), jone_2] _ _ from sb_for (enc := P.walks_E3 costs many told_2 turn row_2 there) (j0 := jone_2) (i_rng1 (e_var rfl)) rfl (stepN (fun s j d => R.walks_L1 costs many told_2 turn row_2 there s d j)) (fun some_v_5 jj_2 => show SB _ [some (.p costs), some (.p many), some (own1 told_2), some (.p turn), some (own1 row_2), some (.p there), some (own1 some_v_5), jj_2] _ _ from sb_frz rfl (snap_own1 _) (sb_one (sb_append rfl rfl (e_if (b_op (e_op (e_var rfl) (e_lst (a_nil)))) (e_f1 (e_var rfl)) (e_c)) (fun row_3 => sb_nil ⟨(some (.p there), some (.p ((.list some_v_5))), jj_2), .inl rfl⟩)))))
def P.walks_L3 (many : D) (costs : D) (told_2 : List D) (turn : D) : Option (List D) := (xseq []).bind fun row => (irng1 (some many)).bind fun ds => (fold (fun s d => P.walks_L2 many told_2 costs s d) ds row).bind fun row_4 => (some ((.list row_4))).bind fun y => (apd told_2 y).bind fun told_3 => some told_3
theorem R.walks_L3 (costs : D) (many : D) (told_2 : List D) (turn : D) (jturn : Option T) (jrow : Option T) (jthere : Option T) (jsome : Option T) (jone : Option T) : SB Q.walks_L3 [some (.p costs), some (.p many), some (own1 told_2), some (.p turn), jrow, jthere, jsome, jone] (P.walks_L3 many costs told_2 turn) (ZN (P.walks_E1 costs many)) := by
  unfold Q.walks_L3 P.walks_L3
  exact sb_setF (f_lst (a_nil)) (fun row => show SB _ [some (.p costs), some (.p many), some (own1 told_2), some (.p turn), some (own1 row), jthere, jsome, jone] _ _ from sb_for (enc := P.walks_E2 costs many told_2 turn) (j0 := (jthere, jsome, jone)) (i_rng1 (e_var rfl)) rfl (stepN (fun s j d => R.walks_L2 costs many told_2 turn s d j.1 j.2.1 j.2.2)) (fun row_4 jj_3 => show SB _ [some (.p costs), some (.p many), some (own1 told_2), some (.p turn), some (own1 row_4), jj_3.1, jj_3.2.1, jj_3.2.2] _ _ from sb_frz rfl (snap_own1 _) (sb_one (sb_append rfl rfl (e_var rfl) (fun told_3 => sb_nil ⟨(some (.p turn), some (.p ((.list row_4))), jj_3.1, jj_3.2.1, jj_3.2.2), .inl rfl⟩)))))
def P.walks (costs : D) : Option (D) := (xf1 lenT (some costs)).bind fun many => (xseq [xop addT (xlst [some (.int 0)]) (xop mulT (xlst [some .none]) (xop subT (some many) (some (.int 1))))]).bind fun told => (irng1 (some many)).bind fun ds => (fold (fun s d => P.walks_L3 many costs s d) ds told).bind fun told_4 => some ((.list told_4))
theorem R.walks (costs : D) : FR (RT_walks) (Q.walks [.p costs]) (P.walks costs) := by
  unfold Q.walks P.walks
  exact run_fr (show SB _ [some (.p costs), none, none, none, none, none, none, none] _ _ from sb_set (e_f1 (e_var rfl)) (fun many => show SB _ [some (.p costs), some (.p many), none, none, none, none, none, none] _ _ from sb_setF (f_lst (af_cons (e_op (e_lst (a_cons (e_c) (a_nil))) (e_op (e_lst (a_cons (e_c) (a_nil))) (e_op (e_var rfl) (e_c)))) (a_nil))) (fun told => show SB _ [some (.p costs), some (.p many), some (own1 told), none, none, none, none, none] _ _ from sb_for (enc := P.walks_E1 costs many) (j0 := (none, none, none, none, none)) (i_rng1 (e_var rfl)) rfl (stepN (fun s j d => R.walks_L3 costs many s d j.1 j.2.1 j.2.2.1 j.2.2.2.1 j.2.2.2.2)) (fun told_4 jj_4 => show SB _ [some (.p costs), some (.p many), some (own1 told_4), jj_4.1, jj_4.2.1, jj_4.2.2.1, jj_4.2.2.2.1, jj_4.2.2.2.2] _ _ from sb_one (sb_retV rfl (.inl ⟨_, rfl, ⟨_, rfl, rfl⟩⟩))))))
abbrev RT_least_mean := RTp
def P.least_mean_E1 (costs : D) (many : D) (told : D) (s : D) (j : (Option T) × (Option T) × (Option T) × (Option T)) : En := [some (.p costs), some (.p many), some (.p told), some (.p s), j.1, j.2.1, j.2.2.1, j.2.2.2]
def P.least_mean_E2 (costs : D) (many : D) (told : D) (there : D) (s : D) (j : (Option T) × (Option T) × (Option T)) : En := [some (.p costs), some (.p many), some (.p told), some (.p s), some (.p there), j.1, j.2.1, j.2.2]
def P.least_mean_E3 (costs : D) (many : D) (told : D) (best_2 : D) (there : D) (s : D) (j : (Option T) × (Option T)) : En := [some (.p costs), some (.p many), some (.p told), some (.p best_2), some (.p there), some (.p s), j.1, j.2]
def P.least_mean_E4 (costs : D) (many : D) (told : D) (best_2 : D) (there : D) (k : D) (s : D) (j : Option T) : En := [some (.p costs), some (.p many), some (.p told), some (.p best_2), some (.p there), some (.p s), some (.p k), j]
def P.least_mean_E5 (costs : D) (many : D) (told : D) (best_2 : D) (there : D) (k : D) (here : D) (s : D) (j : Unit) : En := [some (.p costs), some (.p many), some (.p told), some (.p best_2), some (.p there), some (.p s), some (.p k), some (.p here)]
def P.least_mean_L1 (told : D) (there : D) (many : D) (worst_2 : D) (k : D) : Option (D) := (xif (xbool (xop notnT (xop idxT (xop idxT (some told) (some k)) (some there)) (some .none))) ((ap2 P.fraction (xop subT (xop idxT (xop idxT (some told) (some many)) (some there)) (xop idxT (xop idxT (some told) (some k)) (some there))) (xop subT (some many) (some k))).bind fun here => (xif (xor' (xbool (xop isnT (some worst_2) (some .none))) (xbool (ap2 P.is_less (some worst_2) (some here)))) ((some here).bind fun worst_3 => some worst_3) (some worst_2)).bind fun worst_4 => some worst_4) (some worst_2)).bind fun worst_5 => some worst_5
theorem R.least_mean_L1 (costs : D) (many : D) (told : D) (best_2 : D) (there : D) (worst_2 : D) (k : D) (jk_2 : Option T) (jhere_2 : Option T) : SB Q.least_mean_L1 [some (.p costs), some (.p many), some (.p told), some (.p best_2), some (.p there), some (.p worst_2), some (.p k), jhere_2] (P.least_mean_L1 told there many worst_2 k) (ZN (P.least_mean_E3 costs many told best_2 there)) := by
  unfold Q.least_mean_L1 P.least_mean_L1
  exact sb_one (sb_ifJ (enc := P.least_mean_E4 costs many told best_2 there k) (b_op (e_op (e_op (e_op (e_var rfl) (e_var rfl)) (e_var rfl)) (e_c))) (sb_set (e_call2 (e_op (e_op (e_op (e_var rfl) (e_var rfl)) (e_var rfl)) (e_op (e_op (e_var rfl) (e_var rfl)) (e_var rfl))) (e_op (e_var rfl) (e_var rfl)) fz_p fz_p (fun a b => R.fraction a b)) (fun here => show SB _ [some (.p costs), some (.p many), some (.p told), some (.p best_2), some (.p there), some (.p worst_2), some (.p k), some (.p here)] _ _ from sb_one (sb_ifJ (enc := P.least_mean_E5 costs many told best_2 there k here) (b_or (b_op (e_op (e_var rfl) (e_c))) (b_val (e_call2 (e_var rfl) (e_var rfl) fz_p fz_p (fun a b => R.is_less a b)))) (sb_one (sb_set (e_var rfl) (fun worst_3 => sb_nil ⟨(), rfl⟩))) (sb_nil ⟨(), rfl⟩) (fun worst_4 jj => sb_nil ⟨some (.p here), rfl⟩)))) (sb_nil ⟨jhere_2, rfl⟩) (fun worst_5 jj_2 => sb_nil ⟨(some (.p k), jj_2), .inl rfl⟩))
def P.least_mean_E6 (costs : D) (many : D) (told : D) (there : D) (worst_6 : D) (jk_3 : Option T) (jhere_4 : Option T) (s : D) (j : Unit) : En := [some (.p costs), some (.p many), some (.p told), some (.p s), some (.p there), some (.p worst_6), jk_3, jhere_4]
def P.least_mean_L2 (told : D) (many : D) (best_2 : D) (there : D) : Option (D) := (xif (xbool (xop notnT (xop idxT (xop idxT (some told) (some many)) (some there)) (some .none))) ((some .none).bind fun worst => (irng1 (some many)).bind fun ds => (fold (fun s d => P.least_mean_L1 told there many s d) ds worst).bind fun worst_6 => (xif (xor' (xbool (xop isnT (some best_2) (some .none))) (xbool (ap2 P.is_less (some worst_6) (some best_2)))) ((some worst_6).bind fun best_3 => some best_3) (some best_2)).bind fun best_4 => some best_4) (some best_2)).bind fun best_5 => some best_5
theorem R.least_mean_L2 (costs : D) (many : D) (told : D) (best_2 : D) (there : D) (jthere : Option T) (jworst : Option T) (jk : Option T) (jhere : Option T) : SB Q.least_mean_L2 [some (.p costs), some (.p many), some (.p told), some (.p best_2), some (.p there), jworst, jk, jhere] (P.least_mean_L2 told many best_2 there) (ZN (P.least_mean_E1 costs many told)) := by
  unfold Q.least_mean_L2 P.least_mean_L2
  exact sb_one (sb_ifJ (enc := P.least_mean_E2 costs many told there) (b_op (e_op (e_op (e_op (e_var rfl) (e_var rfl)) (e_var rfl)) (e_c))) (sb_set (e_c) (fun worst => show SB _ [some (.p costs), some (.p many), some (.p told), some (.p best_2), some (.p there), some (.p worst), jk, jhere] _ _ from sb_for (enc := P.least_mean_E3 costs many told best_2 there) (j0 := (jk, jhere)) (i_rng1 (e_var rfl)) rfl (stepN (fun s j d => R.least_mean_L1 costs many told best_2 there s d j.1 j.2)) (fun worst_6 jj_4 => show SB _ [some (.p costs), some (.p many), some (.p told), some (.p best_2), some (.p there), some (.p worst_6), jj_4.1, jj_4.2] _ _ from sb_one (sb_ifJ (enc := P.least_mean_E6 costs many told there worst_6 jj_4.1 jj_4.2) (b_or (b_op (e_op (e_var rfl) (e_c))) (b_val (e_call2 (e_var rfl) (e_var rfl) fz_p fz_p (fun a b => R.is_less a b)))) (sb_one (sb_set (e_var rfl) (fun best_3 => sb_nil ⟨(), rfl⟩))) (sb_nil ⟨(), rfl⟩) (fun best_4 jj_3 => sb_nil ⟨(some (.p worst_6), jj_4.1, jj_4.2), rfl⟩))))) (sb_nil ⟨(jworst, jk, jhere), rfl⟩) (fun best_5 jj_5 => sb_nil ⟨(some (.p there), jj_5.1, jj_5.2.1, jj_5.2.2), .inl rfl⟩))
def P.least_mean (costs : D) : Option (D) := (xf1 lenT (some costs)).bind fun many => (ap1 P.walks (some costs)).bind fun told => (some .none).bind fun best => (irng1 (some many)).bind fun ds => (fold (fun s d => P.least_mean_L2 told many s d) ds best).bind fun best_6 => some best_6
theorem R.least_mean (costs : D) : FR (RT_least_mean) (Q.least_mean [.p costs]) (P.least_mean costs) := by
  unfold Q.least_mean P.least_mean
  exact run_fr (show SB _ [some (.p costs), none, none, none, none, none, none, none] _ _ from sb_set (e_f1 (e_var rfl)) (fun many => show SB _ [some (.p costs), some (.p many), none, none, none, none, none, none] _ _ from sb_set (e_call1 (e_var rfl) fz_p (fun a => FR.os (R.walks a))) (fun told => show SB _ [some (.p costs), some (.p many), some (.p told), none, none, none, none, none] _ _ from sb_set (e_c) (fun best => show SB _ [some (.p costs), some (.p many), some (.p told), some (.p best), none, none, none, none] _ _ from sb_for (enc := P.least_mean_E1 costs many told) (j0 := (none, none, none, none)) (i_rng1 (e_var rfl)) rfl (stepN (fun s j d => R.least_mean_L2 costs many told s d j.1 j.2.1 j.2.2.1 j.2.2.2)) (fun best_6 jj_6 => show SB _ [some (.p costs), some (.p many), some (.p told), some (.p best_6), jj_6.1, jj_6.2.1, jj_6.2.2.1, jj_6.2.2.2] _ _ from sb_one (sb_retV rfl (.inl ⟨_, rfl, rfl⟩)))))))
abbrev RT_lifted := RTo
def P.lifted_E1 (costs : D) (mean : D) (many : D) (s : List D) (j : (Option T) × (Option T) × (Option T) × (Option T)) : En := [some (.p costs), some (.p mean), some (.p many), some (own1 s), j.1, j.2.1, j.2.2.1, j.2.2.2]
def P.lifted_E2 (costs : D) (mean : D) (many : D) (turn : D) (s : List D) (j : (Option T) × (Option T) × (Option T)) : En := [some (.p costs), some (.p mean), some (.p many), some (own1 s), some (.p turn), j.1, j.2.1, j.2.2]
def P.lifted_E3 (costs : D) (mean : D) (many : D) (turn : D) (one : D) (s : List D) (j : (Option T) × (Option T)) : En := [some (.p costs), some (.p mean), some (.p many), some (own1 s), some (.p turn), some (.p one), j.1, j.2]
def P.lifted_E4 (costs : D) (mean : D) (many : D) (turn : D) (one : D) (other : D) (there : D) (s : List D) (j : Unit) : En := [some (.p costs), some (.p mean), some (.p many), some (own1 s), some (.p turn), some (.p one), some (.p other), some (.p there)]
def P.lifted_L1 (one : D) (costs : D) (mean : D) (worths_4 : List D) (other : D) : Option (List D) := (ap2 P.minus (ap2 P.plus (xop idxT (some (.list worths_4)) (some one)) (xtup [xop subT (xop idxT (xop idxT (some costs) (some one)) (some other)) (xop idxT (xop idxT (some costs) (some one)) (some one)), some (.int 1)])) (some mean)).bind fun there => (xif (xand (xbool (xop M.neT (some one) (some other))) (xbool (ap2 P.is_less (some there) (xop idxT (some (.list worths_4)) (some other))))) ((some other).bind fun l => (some there).bind fun y => (setL worths_4 l y).bind fun worths_5 => some worths_5) (some worths_4)).bind fun worths_6 => some worths_6
theorem R.lifted_L1 (costs : D) (mean : D) (many : D) (turn : D) (one : D) (worths_4 : List D) (other : D) (jother_3 : Option T) (jthere_3 : Option T) : SB Q.lifted_L1 [some (.p costs), some (.p mean), some (.p many), some (own1 worths_4), some (.p turn), some (.p one), some (.p other), jthere_3] (P.lifted_L1 one costs mean worths_4 other) (ZN (P.lifted_E3 costs mean many turn one)) := by
  unfold Q.lifted_L1 P.lifted_L1
  exact sb_set (e_call2 (e_call2 (e_opw v2_ix (e_ow rfl) (EG.w (e_var rfl))) (e_tup (a_cons (e_op (e_op (e_op (e_var rfl) (e_var rfl)) (e_var rfl)) (e_op (e_op (e_var rfl) (e_var rfl)) (e_var rfl))) (a_cons (e_c) (a_nil)))) fz_p fz_p (fun a b => R.plus a b)) (e_var rfl) fz_p fz_p (fun a b => R.minus a b)) (fun there => show SB _ [some (.p costs), some (.p mean), some (.p many), some (own1 worths_4), some (.p turn), some (.p one), some (.p other), some (.p there)] _ _ from sb_one (sb_ifJ (enc := P.lifted_E4 costs mean many turn one other there) (b_and (b_op (e_op (e_var rfl) (e_var rfl))) (b_val (e_call2 (e_var rfl) (e_opw v2_ix (e_ow rfl) (EG.w (e_var rfl))) fz_p fz_p (fun a b => R.is_less a b)))) (sb_one (sb_setIx rfl rfl (e_var rfl) (e_var rfl) (fun worths_5 => sb_nil ⟨(), rfl⟩))) (sb_nil ⟨(), rfl⟩) (fun worths_6 jj => sb_nil ⟨(some (.p other), some (.p there)), .inl rfl⟩)))
def P.lifted_L2 (many : D) (costs : D) (mean : D) (worths_3 : List D) (one : D) : Option (List D) := (irng1 (some many)).bind fun ds => (fold (fun s d => P.lifted_L1 one costs mean s d) ds worths_3).bind fun worths_7 => some worths_7
theorem R.lifted_L2 (costs : D) (mean : D) (many : D) (turn : D) (worths_3 : List D) (one : D) (jone_2 : Option T) (jother_2 : Option T) (jthere_2 : Option T) : SB Q.lifted_L2 [some (.p costs), some (.p mean), some (.p many), some (own1 worths_3), some (.p turn), some (.p one), jother_2, jthere_2] (P.lifted_L2 many costs mean worths_3 one) (ZN (P.lifted_E2 costs mean many turn)) := by
  unfold Q.lifted_L2 P.lifted_L2
  exact sb_one (sb_for (enc := P.lifted_E3 costs mean many turn one) (j0 := (jother_2, jthere_2)) (i_rng1 (e_var rfl)) rfl (stepN (fun s j d => R.lifted_L1 costs mean many turn one s d j.1 j.2)) (fun worths_7 jj_2 => sb_nil ⟨(some (.p one), jj_2.1, jj_2.2), .inl rfl⟩))
def P.lifted_L3 (many : D) (costs : D) (mean : D) (worths_2 : List D) (turn : D) : Option (List D) := (irng1 (some many)).bind fun ds => (fold (fun s d => P.lifted_L2 many costs mean s d) ds worths_2).bind fun worths_8 => some worths_8
theorem R.lifted_L3 (costs : D) (mean : D) (many : D) (worths_2 : List D) (turn : D) (jturn : Option T) (jone : Option T) (jother : Option T) (jthere : Option T) : SB Q.lifted_L3 [some (.p costs), some (.p mean), some (.p many), some (own1 worths_2), some (.p turn), jone, jother, jthere] (P.lifted_L3 many costs mean worths_2 turn) (ZN (P.lifted_E1 costs mean many)) := by
  unfold Q.lifted_L3 P.lifted_L3
  exact sb_one (sb_for (enc := P.lifted_E2 costs mean many turn) (j0 := (jone, jother, jthere)) (i_rng1 (e_var rfl)) rfl (stepN (fun s j d => R.lifted_L2 costs mean many turn s d j.1 j.2.1 j.2.2)) (fun worths_8 jj_3 => sb_nil ⟨(some (.p turn), jj_3.1, jj_3.2.1, jj_3.2.2), .inl rfl⟩))
def P.lifted (costs : D) (mean : D) : Option (D) := (xf1 lenT (some costs)).bind fun many => (xrep (xlst [xtup [some (.int 0), some (.int 1)]]) (some many)).bind fun worths => (irng1 (some many)).bind fun ds => (fold (fun s d => P.lifted_L3 many costs mean s d) ds worths).bind fun worths_9 => some ((.list worths_9))
theorem R.lifted (costs : D) (mean : D) : FR (RT_lifted) (Q.lifted [.p costs, .p mean]) (P.lifted costs mean) := by
  unfold Q.lifted P.lifted
  exact run_fr (show SB _ [some (.p costs), some (.p mean), none, none, none, none, none, none] _ _ from sb_set (e_f1 (e_var rfl)) (fun many => show SB _ [some (.p costs), some (.p mean), some (.p many), none, none, none, none, none] _ _ from sb_setF (f_rep (e_lst (a_cons (e_tup (a_cons (e_c) (a_cons (e_c) (a_nil)))) (a_nil))) (e_var rfl)) (fun worths => show SB _ [some (.p costs), some (.p mean), some (.p many), some (own1 worths), none, none, none, none] _ _ from sb_for (enc := P.lifted_E1 costs mean many) (j0 := (none, none, none, none)) (i_rng1 (e_var rfl)) rfl (stepN (fun s j d => R.lifted_L3 costs mean many s d j.1 j.2.1 j.2.2.1 j.2.2.2)) (fun worths_9 jj_4 => show SB _ [some (.p costs), some (.p mean), some (.p many), some (own1 worths_9), jj_4.1, jj_4.2.1, jj_4.2.2.1, jj_4.2.2.2] _ _ from sb_one (sb_retV rfl (.inl ⟨_, rfl, ⟨_, rfl, rfl⟩⟩))))))
abbrev RT_dearest := RTp
def P.dearest_E1 (book : D) (costs : D) (mean : D) (worths : D) (s : List D) (j : (Option T) × (Option T) × (Option T) × (Option T)) : En := [some (.p book), some (.p costs), some (.p mean), some (.p worths), some (own1 s), j.1, j.2.1, j.2.2.1, j.2.2.2, none]
def P.dearest_E2 (book : D) (costs : D) (mean : D) (worths : D) (ways_2 : List D) (one : D) (s : List D) (j : (Option T) × (Option T)) : En := [some (.p book), some (.p costs), some (.p mean), some (.p worths), some (own1 ways_2), some (.p one), some (own1 s), j.1, j.2, none]
def P.dearest_L1 (worths : D) (one : D) (costs : D) (mean : D) (row_2 : List D) (other : D) : Option (List D) := (ap2 P.minus (ap2 P.plus (xop idxT (some worths) (some one)) (xtup [xop subT (xop idxT (xop idxT (some costs) (some one)) (some other)) (xop idxT (xop idxT (some costs) (some one)) (some one)), some (.int 1)])) (some mean)).bind fun there => (xmand (xop M.neT (some one) (some other)) (xop M.eqT (some there) (xop idxT (some worths) (some other)))).bind fun y => (apd row_2 y).bind fun row_3 => some row_3
theorem R.dearest_L1 (book : D) (costs : D) (mean : D) (worths : D) (ways_2 : List D) (one : D) (row_2 : List D) (other : D) (jother_2 : Option T) (jthere_2 : Option T) : SB Q.dearest_L1 [some (.p book), some (.p costs), some (.p mean), some (.p worths), some (own1 ways_2), some (.p one), some (own1 row_2), some (.p other), jthere_2, none] (P.dearest_L1 worths one costs mean row_2 other) (ZN (P.dearest_E2 book costs mean worths ways_2 one)) := by
  unfold Q.dearest_L1 P.dearest_L1
  exact sb_set (e_call2 (e_call2 (e_op (e_var rfl) (e_var rfl)) (e_tup (a_cons (e_op (e_op (e_op (e_var rfl) (e_var rfl)) (e_var rfl)) (e_op (e_op (e_var rfl) (e_var rfl)) (e_var rfl))) (a_cons (e_c) (a_nil)))) fz_p fz_p (fun a b => R.plus a b)) (e_var rfl) fz_p fz_p (fun a b => R.minus a b)) (fun there => show SB _ [some (.p book), some (.p costs), some (.p mean), some (.p worths), some (own1 ways_2), some (.p one), some (own1 row_2), some (.p other), some (.p there), none] _ _ from sb_one (sb_append rfl rfl (e_and (e_op (e_var rfl) (e_var rfl)) (e_op (e_var rfl) (e_op (e_var rfl) (e_var rfl)))) (fun row_3 => sb_nil ⟨(some (.p other), some (.p there)), .inl rfl⟩)))
def P.dearest_L2 (book : D) (worths : D) (costs : D) (mean : D) (ways_2 : List D) (one : D) : Option (List D) := (xseq []).bind fun row => (irng1 (xf1 lenT (some book))).bind fun ds => (fold (fun s d => P.dearest_L1 worths one costs mean s d) ds row).bind fun row_4 => (some ((.list row_4))).bind fun y => (apd ways_2 y).bind fun ways_3 => some ways_3
theorem R.dearest_L2 (book : D) (costs : D) (mean : D) (worths : D) (ways_2 : List D) (one : D) (jone : Option T) (jrow : Option T) (jother : Option T) (jthere : Option T) : SB Q.dearest_L2 [some (.p book), some (.p costs), some (.p mean), some (.p worths), some (own1 ways_2), some (.p one), jrow, jother, jthere, none] (P.dearest_L2 book worths costs mean ways_2 one) (ZN (P.dearest_E1 book costs mean worths)) := by
  unfold Q.dearest_L2 P.dearest_L2
  exact sb_setF (f_lst (a_nil)) (fun row => show SB _ [some (.p book), some (.p costs), some (.p mean), some (.p worths), some (own1 ways_2), some (.p one), some (own1 row), jother, jthere, none] _ _ from sb_for (enc := P.dearest_E2 book costs mean worths ways_2 one) (j0 := (jother, jthere)) (i_rng1 (e_f1 (e_var rfl))) rfl (stepN (fun s j d => R.dearest_L1 book costs mean worths ways_2 one s d j.1 j.2)) (fun row_4 jj => show SB _ [some (.p book), some (.p costs), some (.p mean), some (.p worths), some (own1 ways_2), some (.p one), some (own1 row_4), jj.1, jj.2, none] _ _ from sb_frz rfl (snap_own1 _) (sb_one (sb_append rfl rfl (e_var rfl) (fun ways_3 => sb_nil ⟨(some (.p one), some (.p ((.list row_4))), jj.1, jj.2), .inl rfl⟩)))))
def P.dearest_E3 (book : D) (costs : D) (mean : D) (worths : D) (ways_4 : List D) (jrow_2 : Option T) (jthere_4 : Option T) (s : Unit) (j : (Option T) × (Option T) × (Option T)) : En := [some (.p book), some (.p costs), some (.p mean), some (.p worths), some (.p ((.list ways_4))), j.1, jrow_2, j.2.1, jthere_4, j.2.2]
def P.dearest_E4 (book : D) (costs : D) (mean : D) (worths : D) (ways_4 : List D) (one_2 : D) (jrow_2 : Option T) (jthere_4 : Option T) (s : Unit) (j : (Option T) × (Option T)) : En := [some (.p book), some (.p costs), some (.p mean), some (.p worths), some (.p ((.list ways_4))), some (.p one_2), jrow_2, j.1, jthere_4, j.2]
def P.dearest_L3 (ways_4 : List D) (one_2 : D) (mean : D) (worths : D) (other_2 : D) : Option (Ct (Unit) (D)) := xif (xbool (xop idxT (xop idxT (some ((.list ways_4))) (some one_2)) (some other_2))) ((ap3 P.way_between (some ((.list ways_4))) (some other_2) (some one_2)).bind fun way => xif (xbool (xop notnT (some way) (some .none))) ((xtup [ap2 P.over (some mean) (xop subT (some (.int 0)) (some (.int 1))), some way, some worths]).map .rt) (some (.nx (())))) (some (.nx (())))
theorem R.dearest_L3 (book : D) (costs : D) (mean : D) (worths : D) (ways_4 : List D) (one_2 : D) (jrow_2 : Option T) (jthere_4 : Option T) (other_2 : D) (jother_6 : Option T) (jway_2 : Option T) : SB Q.dearest_L3 [some (.p book), some (.p costs), some (.p mean), some (.p worths), some (.p ((.list ways_4))), some (.p one_2), jrow_2, some (.p other_2), jthere_4, jway_2] (P.dearest_L3 ways_4 one_2 mean worths other_2) (ZC RT_dearest (P.dearest_E4 book costs mean worths ways_4 one_2 jrow_2 jthere_4)) := by
  unfold Q.dearest_L3 P.dearest_L3
  exact sb_one (sb_if (b_val (e_op (e_op (e_var rfl) (e_var rfl)) (e_var rfl))) (sb_assoc (sb_set (e_call3 (e_var rfl) (e_var rfl) (e_var rfl) fz_p fz_p fz_p (fun a b c => R.way_between a b c)) (fun way => sb_if (b_op (e_op (e_var rfl) (e_c))) (sb_ret (k := Ct.rt) (e_tup (a_cons (e_call2 (e_var rfl) (e_op (e_c) (e_c)) fz_p fz_p (fun a b => R.over a b)) (a_cons (e_var rfl) (a_cons (e_var rfl) (a_nil))))) (fun d => ⟨_, rfl, rfl⟩)) (sb_skip (sb_nil ⟨(some (.p other_2), some (.p way)), .inl rfl⟩))))) (sb_skip (sb_nil ⟨(some (.p other_2), jway_2), .inl rfl⟩)))
def P.dearest_L4 (book : D) (ways_4 : List D) (mean : D) (worths : D) (one_2 : D) : Option (Ct (Unit) (D)) := (irng1 (xf1 lenT (some book))).bind fun ds => aft (foldC (fun s d => P.dearest_L3 ways_4 one_2 mean worths d) ds (())) Ct.rt fun v => some (.nx (()))
theorem R.dearest_L4 (book : D) (costs : D) (mean : D) (worths : D) (ways_4 : List D) (jrow_2 : Option T) (jthere_4 : Option T) (one_2 : D) (jone_3 : Option T) (jother_5 : Option T) (jway : Option T) : SB Q.dearest_L4 [some (.p book), some (.p costs), some (.p mean), some (.p worths), some (.p ((.list ways_4))), some (.p one_2), jrow_2, jother_5, jthere_4, jway] (P.dearest_L4 book ways_4 mean worths one_2) (ZC RT_dearest (P.dearest_E3 book costs mean worths ways_4 jrow_2 jthere_4)) := by
  unfold Q.dearest_L4 P.dearest_L4
  exact sb_one (sb_forC (enc := P.dearest_E4 book costs mean worths ways_4 one_2 jrow_2 jthere_4) (j0 := (jother_5, jway)) (RT := RT_dearest) (i_rng1 (e_f1 (e_var rfl))) rfl (stepNC (fun s j d => R.dearest_L3 book costs mean worths ways_4 one_2 jrow_2 jthere_4 d j.1 j.2)) (fun d t h => ⟨t, rfl, h⟩) (fun v jj_2 => sb_nil ⟨(some (.p one_2), jj_2.1, jj_2.2), .inl rfl⟩))
def P.dearest (book : D) : Option (D) := xif (xbool (xop ltT (xf1 lenT (some book)) (some (.int 2)))) (some .none) ((ap1 P.costs_of (some book)).bind fun costs => (ap1 P.least_mean (some costs)).bind fun mean => (ap2 P.lifted (some costs) (some mean)).bind fun worths => (xseq []).bind fun ways => (irng1 (xf1 lenT (some book))).bind fun ds => (fold (fun s d => P.dearest_L2 book worths costs mean s d) ds ways).bind fun ways_4 => (irng1 (xf1 lenT (some book))).bind fun ds => aft (foldC (fun s d => P.dearest_L4 book ways_4 mean worths d) ds (())) (fun d => d) fun v_2 => some .none)
theorem R.dearest (book : D) : FR (RT_dearest) (Q.dearest [.p book]) (P.dearest book) := by
  unfold Q.dearest P.dearest
  exact run_fr (show SB _ [some (.p book), none, none, none, none, none, none, none, none, none] _ _ from sb_if (b_op (e_op (e_f1 (e_var rfl)) (e_c))) (sb_ret0 (e_c) (fun d => .inl ⟨_, rfl, rfl⟩)) (sb_skip (show SB _ [some (.p book), none, none, none, none, none, none, none, none, none] _ _ from sb_set (e_call1 (e_var rfl) fz_p (fun a => R.costs_of a)) (fun costs => show SB _ [some (.p book), some (.p costs), none, none, none, none, none, none, none, none] _ _ from sb_set (e_call1 (e_var rfl) fz_p (fun a => FR.ps (R.least_mean a))) (fun mean => show SB _ [some (.p book), some (.p costs), some (.p mean), none, none, none, none, none, none, none] _ _ from sb_set (e_call2 (e_var rfl) (e_var rfl) fz_p fz_p (fun a b => FR.os (R.lifted a b))) (fun worths => show SB _ [some (.p book), some (.p costs), some (.p mean), some (.p worths), none, none, none, none, none, none] _ _ from sb_setF (f_lst (a_nil)) (fun ways => show SB _ [some (.p book), some (.p costs), some (.p mean), some (.p worths), some (own1 ways), none, none, none, none, none] _ _ from sb_for (enc := P.dearest_E1 book costs mean worths) (j0 := (none, none, none, none)) (i_rng1 (e_f1 (e_var rfl))) rfl (stepN (fun s j d => R.dearest_L2 book costs mean worths s d j.1 j.2.1 j.2.2.1 j.2.2.2)) (fun ways_4 jj_4 => show SB _ [some (.p book), some (.p costs), some (.p mean), some (.p worths), some (own1 ways_4), jj_4.1, jj_4.2.1, jj_4.2.2.1, jj_4.2.2.2, none] _ _ from sb_frz rfl (snap_own1 _) (sb_forC (enc := P.dearest_E3 book costs mean worths ways_4 jj_4.2.1 jj_4.2.2.2) (j0 := (jj_4.1, jj_4.2.2.1, none)) (RT := RT_dearest) (i_rng1 (e_f1 (e_var rfl))) rfl (stepNC (fun s j d => R.dearest_L4 book costs mean worths ways_4 jj_4.2.1 jj_4.2.2.2 d j.1 j.2.1 j.2.2)) (fun d t h => .inl ⟨t, rfl, h⟩) (fun v_2 jj_3 => show SB _ [some (.p book), some (.p costs), some (.p mean), some (.p worths), some (.p ((.list ways_4))), jj_3.1, jj_4.2.1, jj_3.2.1, jj_4.2.2.2, jj_3.2.2] _ _ from sb_one (sb_ret0 (e_c) (fun d => .inl ⟨_, rfl, rfl⟩))))))))))))
def P.is_buying (x0 : D) : Option D := qc Q.is_buying [.p x0]
theorem R.is_buying (x0 : D) : FR RTs (Q.is_buying [.p x0]) (P.is_buying x0) := fr_qc rfl
abbrev RT_need_buying := RTp
def P.need_buying (book : D) (buying : D) : Option (D) := xif (xor' (xnot (xbool (ap1 P.is_buying (some buying)))) (xbool (xop M.neT (xf1 lenT (xop idxT (some buying) (some (.int 0)))) (xf1 lenT (xop idxT (xop idxT (some book) (some (.int 0))) (some (.int 0))))))) (none) (some .none)
theorem R.need_buying (book : D) (buying : D) : FR (RT_need_buying) (Q.need_buying [.p book, .p buying]) (P.need_buying book buying) := by
  unfold Q.need_buying P.need_buying
  exact run_fr (show SB _ [some (.p book), some (.p buying)] _ _ from sb_one (sb_if (b_or (b_not (b_val (e_call1 (e_var rfl) fz_p (fun a => R.is_buying a)))) (b_op (e_op (e_f1 (e_op (e_var rfl) (e_c))) (e_f1 (e_op (e_op (e_var rfl) (e_c)) (e_c)))))) (sb_never) (sb_skip (sb_nil (.inr ⟨_, rfl, rfl⟩)))))
abbrev RT_may_come := RTp
def P.may_come (book : D) (kind : D) (buying : D) : Option (D) := (ap2 P.need_buying (some book) (some buying)).bind fun _ => ap2 P.has_wish (xop addT (some book) (xlst [some buying])) (some kind)
theorem R.may_come (book : D) (kind : D) (buying : D) : FR (RT_may_come) (Q.may_come [.p book, .p kind, .p buying]) (P.may_come book kind buying) := by
  unfold Q.may_come P.may_come
  exact run_fr (show SB _ [some (.p book), some (.p kind), some (.p buying)] _ _ from sb_expr (e_call2 (e_var rfl) (e_var rfl) fz_p fz_p (fun a b => FR.ps (R.need_buying a b))) (show SB _ [some (.p book), some (.p kind), some (.p buying)] _ _ from sb_one (sb_ret0 (e_call2 (e_op (e_var rfl) (e_lst (a_cons (e_var rfl) (a_nil)))) (e_var rfl) fz_p fz_p (fun a b => FR.ps (R.has_wish a b))) (fun d => .inl ⟨_, rfl, rfl⟩))))
abbrev RT_k32_law := RTp
def P.k32_law_E1 (script : List Int) (book : D) (picks : D) (great : D) (more : D) (s : List D) (j : (Option T) × (Option T) × (Option T)) : En := [some (.sc script), some (.p book), some (.p picks), some (.p great), some (.p more), some (own1 s), j.1, j.2.1, j.2.2, none, none, none, none, none, none, none]
def P.k32_law_L1 (more : D) (moved_2 : List D) (prices_2 : D) (amounts_2 : D) : Option (List D) := (xmap (fun d => un2 d fun one other => xop addT (some one) (some other)) (izipM (some amounts_2) (some more))).bind fun some_v => (xtup [some prices_2, xf1 tupleT (some some_v)]).bind fun y => (apd moved_2 y).bind fun moved_3 => some moved_3
theorem R.k32_law_L1 (script : List Int) (book : D) (picks : D) (great : D) (more : D) (moved_2 : List D) (prices_2 : D) (amounts_2 : D) (jprices : Option T) (jamounts : Option T) (jsome : Option T) : SB Q.k32_law_L1 [some (.sc script), some (.p book), some (.p picks), some (.p great), some (.p more), some (own1 moved_2), some (.p prices_2), some (.p amounts_2), jsome, none, none, none, none, none, none, none] (P.k32_law_L1 more moved_2 prices_2 amounts_2) (ZN (P.k32_law_E1 script book picks great more)) := by
  unfold Q.k32_law_L1 P.k32_law_L1
  exact sb_set (e_map2 (i_zipM (e_var rfl) (e_var rfl)) (fun one other => e_op (e_var rfl) (e_var rfl))) (fun some_v => show SB _ [some (.sc script), some (.p book), some (.p picks), some (.p great), some (.p more), some (own1 moved_2), some (.p prices_2), some (.p amounts_2), some (.p some_v), none, none, none, none, none, none, none] _ _ from sb_one (sb_append rfl rfl (e_tup (a_cons (e_var rfl) (a_cons (e_f1 (e_var rfl)) (a_nil)))) (fun moved_3 => sb_nil ⟨(some (.p prices_2), some (.p amounts_2), some (.p some_v)), .inl rfl⟩)))
def P.k32_law (script : List Int) : Option (D) := (ap3 P.law_a_book (some script) (some (.int 0)) (some (.int 11))).bind fun book => (ap3 P.law_draws (ap2 P.law_cell_at (some script) (some (.int 2))) (some (.int 9)) (some (.int 1000))).bind fun picks => (xf1 maxT (xmap (fun d => un2 d fun prices amounts => xf1 maxT (some amounts)) (iseq (some book)))).bind fun great => (xmap (fun pick => xop mulT (xop modT (some pick) (some (.int 50))) (xf1 intT (xop leT (xop addT (some great) (some (.int 50))) (xop powT (some (.int 10)) (some (.int 6)))))) (iseq (xslice (some picks) (some none) (xint (some (.int 6)))))).bind fun more => (xseq []).bind fun moved => (iseq (some book)).bind fun ds => (fold (fun s d => un2 d fun x y => P.k32_law_L1 more s x y) ds moved).bind fun moved_4 => xif (xbool (xop M.neT (ap2 P.has_wish (some ((.list moved_4))) (some (.str "even"))) (ap2 P.has_wish (some book) (some (.str "even"))))) (some (.bool false)) (xif (xand (xbool (xop gtT (xf1 lenT (some book)) (some (.int 1)))) (xbool (xop M.neT (xop idxT (ap1 P.dearest (some ((.list moved_4)))) (some (.int 0))) (xop idxT (ap1 P.dearest (some book)) (some (.int 0)))))) (some (.bool false)) ((xop modT (xop idxT (some picks) (some (.int 6))) (xf1 lenT (some book))).bind fun at_v => (xop idxT (some book) (some at_v)).bind fun d => un2 d fun prices_3 amounts_3 => (xop addT (some (.int 1)) (xop modT (xop idxT (some picks) (some (.int 7))) (xf2 maxT (some (.int 1)) (xf2 minT (some (.int 60)) (xop fdivT (xop powT (some (.int 10)) (some (.int 6))) (xf1 maxT (some amounts_3))))))).bind fun by_v => (xtup [some prices_3, xf1 tupleT (xmap (fun amount => xop mulT (some amount) (some by_v)) (iseq (some amounts_3)))]).bind fun one_2 => (ap2 P.has_wish (some book) (some (.str "scaled"))).bind fun scaled => xif (xbool (xop M.neT (ap2 P.has_wish (xop addT (xop addT (xslice (some book) (some none) (xint (some at_v))) (xlst [some one_2])) (xslice (some book) (xint (xop addT (some at_v) (some (.int 1)))) (some none))) (some (.str "scaled"))) (some scaled))) (some (.bool false)) (xif (xbool (xop M.neT (ap3 P.may_come (some book) (some (.str "scaled")) (some one_2)) (some scaled))) (some (.bool false)) (xop M.eqT (ap3 P.may_come (some book) (some (.str "even")) (xop idxT (some book) (some at_v))) (ap2 P.has_wish (some book) (some (.str "even")))))))
theorem R.k32_law (script : List Int) : FR (RT_k32_law) (Q.k32_law [.sc script]) (P.k32_law script) := by
  unfold Q.k32_law P.k32_law
  exact run_fr (show SB _ [some (.sc script), none, none, none, none, none, none, none, none, none, none, none, none, none, none, none] _ _ from sb_set (e_call3 (e_var rfl) (e_c) (e_c) fz_sc fz_p fz_p (fun a b c => R.law_a_book a b c)) (fun book => show SB _ [some (.sc script), some (.p book), none, none, none, none, none, none, none, none, none, none, none, none, none, none] _ _ from sb_set (e_call3 (e_call2 (e_var rfl) (e_c) fz_sc fz_p (fun a b => R.law_cell_at a b)) (e_c) (e_c) fz_p fz_p fz_p (fun a b c => R.law_draws a b c)) (fun picks => show SB _ [some (.sc script), some (.p book), some (.p picks), none, none, none, none, none, none, none, none, none, none, none, none, none] _ _ from sb_set (e_f1 (e_map2 (i_seqB (EG.w (e_var rfl))) (fun prices amounts => e_f1 (e_var rfl)))) (fun great => show SB _ [some (.sc script), some (.p book), some (.p picks), some (.p great), none, none, none, none, none, none, none, none, none, none, none, none] _ _ from sb_set (e_map (i_seqB (EG.w (e_slice (e_var rfl) (o_none) (o_some (e_c))))) (fun pick => e_op (e_op (e_var rfl) (e_c)) (e_f1 (e_op (e_op (e_var rfl) (e_c)) (e_op (e_c) (e_c)))))) (fun more => show SB _ [some (.sc script), some (.p book), some (.p picks), some (.p great), some (.p more), none, none, none, none, none, none, none, none, none, none, none] _ _ from sb_setF (f_lst (a_nil)) (fun moved => show SB _ [some (.sc script), some (.p book), some (.p picks), some (.p great), some (.p more), some (own1 moved), none, none, none, none, none, none, none, none, none, none] _ _ from sb_for (enc := P.k32_law_E1 script book picks great more) (j0 := (none, none, none)) (i_seq (e_var rfl)) rfl (step2 (fun s j x y => R.k32_law_L1 script book picks great more s x y j.1 j.2.1 j.2.2)) (fun moved_4 jj => show SB _ [some (.sc script), some (.p book), some (.p picks), some (.p great), some (.p more), some (own1 moved_4), jj.1, jj.2.1, jj.2.2, none, none, none, none, none, none, none] _ _ from sb_frz rfl (snap_own1 _) (sb_if (b_op (e_op (e_call2 (e_var rfl) (e_c) fz_p fz_p (fun a b => FR.ps (R.has_wish a b))) (e_call2 (e_var rfl) (e_c) fz_p fz_p (fun a b => FR.ps (R.has_wish a b))))) (sb_ret0 (e_c) (fun d => .inl ⟨_, rfl, rfl⟩)) (sb_skip (show SB _ [some (.sc script), some (.p book), some (.p picks), some (.p great), some (.p more), some (.p ((.list moved_4))), jj.1, jj.2.1, jj.2.2, none, none, none, none, none, none, none] _ _ from sb_if (b_and (b_op (e_op (e_f1 (e_var rfl)) (e_c))) (b_op (e_op (e_op (e_call1 (e_var rfl) fz_p (fun a => FR.ps (R.dearest a))) (e_c)) (e_op (e_call1 (e_var rfl) fz_p (fun a => FR.ps (R.dearest a))) (e_c))))) (sb_ret0 (e_c) (fun d => .inl ⟨_, rfl, rfl⟩)) (sb_skip (show SB _ [some (.sc script), some (.p book), some (.p picks), some (.p great), some (.p more), some (.p ((.list moved_4))), jj.1, jj.2.1, jj.2.2, none, none, none, none, none, none, none] _ _ from sb_set (e_op (e_op (e_var rfl) (e_c)) (e_f1 (e_var rfl))) (fun at_v => show SB _ [some (.sc script), some (.p book), some (.p picks), some (.p great), some (.p more), some (.p ((.list moved_4))), jj.1, jj.2.1, jj.2.2, some (.p at_v), none, none, none, none, none, none] _ _ from sb_asg2 (e_op (e_var rfl) (e_var rfl)) (fun prices_3 amounts_3 => show SB _ [some (.sc script), some (.p book), some (.p picks), some (.p great), some (.p more), some (.p ((.list moved_4))), some (.p prices_3), some (.p amounts_3), jj.2.2, some (.p at_v), none, none, none, none, none, none] _ _ from sb_set (e_op (e_c) (e_op (e_op (e_var rfl) (e_c)) (e_f2 (e_c) (e_f2 (e_c) (e_op (e_op (e_c) (e_c)) (e_f1 (e_var rfl))))))) (fun by_v => show SB _ [some (.sc script), some (.p book), some (.p picks), some (.p great), some (.p more), some (.p ((.list moved_4))), some (.p prices_3), some (.p amounts_3), jj.2.2, some (.p at_v), some (.p by_v), none, none, none, none, none] _ _ from sb_set (e_tup (a_cons (e_var rfl) (a_cons (e_f1 (e_map (i_seqB (EG.w (e_var rfl))) (fun amount => e_op (e_var rfl) (e_var rfl)))) (a_nil)))) (fun one_2 => show SB _ [some (.sc script), some (.p book), some (.p picks), some (.p great), some (.p more), some (.p ((.list moved_4))), some (.p prices_3), some (.p amounts_3), jj.2.2, some (.p at_v), some (.p by_v), some (.p one_2), none, none, none, none] _ _ from sb_set (e_call2 (e_var rfl) (e_c) fz_p fz_p (fun a b => FR.ps (R.has_wish a b))) (fun scaled => show SB _ [some (.sc script), some (.p book), some (.p picks), some (.p great), some (.p more), some (.p ((.list moved_4))), some (.p prices_3), some (.p amounts_3), jj.2.2, some (.p at_v), some (.p by_v), some (.p one_2), some (.p scaled), none, none, none] _ _ from sb_if (b_op (e_op (e_call2 (e_op (e_op (e_slice (e_var rfl) (o_none) (o_some (e_var rfl))) (e_lst (a_cons (e_var rfl) (a_nil)))) (e_slice (e_var rfl) (o_some (e_op (e_var rfl) (e_c))) (o_none))) (e_c) fz_p fz_p (fun a b => FR.ps (R.has_wish a b))) (e_var rfl))) (sb_ret0 (e_c) (fun d => .inl ⟨_, rfl, rfl⟩)) (sb_skip (show SB _ [some (.sc script), some (.p book), some (.p picks), some (.p great), some (.p more), some (.p ((.list moved_4))), some (.p prices_3), some (.p amounts_3), jj.2.2, some (.p at_v), some (.p by_v), some (.p one_2), some (.p scaled), none, none, none] _ _ from sb_if (b_op (e_op (e_call3 (e_var rfl) (e_c) (e_var rfl) fz_p fz_p fz_p (fun a b c => FR.ps (R.may_come a b c))) (e_var rfl))) (sb_ret0 (e_c) (fun d => .inl ⟨_, rfl, rfl⟩)) (sb_skip (show SB _ [some (.sc script), some (.p book), some (.p picks), some (.p great), some (.p more), some (.p ((.list moved_4))), some (.p prices_3), some (.p amounts_3), jj.2.2, some (.p at_v), some (.p by_v), some (.p one_2), some (.p scaled), none, none, none] _ _ from sb_one (sb_ret0 (e_op (e_call3 (e_var rfl) (e_c) (e_op (e_var rfl) (e_var rfl)) fz_p fz_p fz_p (fun a b c => FR.ps (R.may_come a b c))) (e_call2 (e_var rfl) (e_c) fz_p fz_p (fun a b => FR.ps (R.has_wish a b)))) (fun d => .inl ⟨_, rfl, rfl⟩)))))))))))))))))))))))
end
end
namespace B
open PySem PySem.Spec PyProof.Rows L2 M

theorem forRun_inv {g : D → En → Option En} {mb : SM} (P : Nat → En → Prop) : ∀ (ds : List D) (env : En) (k : Nat), P k env →
    (∀ i d e, ds[i]? = some d → P (k + i) e → ∃ e1 e2, g d e = some e1 ∧ (mb e1 = some (.nx e2) ∨ mb e1 = some (.ct e2)) ∧ P (k + i + 1) e2) → ∃ e, forRun g mb ds env = some (.nx e) ∧ P (k + ds.length) e
  | [], env, k, h, _ => ⟨env, rfl, h⟩
  | d :: r, env, k, h, hs => by
    obtain ⟨e1, e2, h1, h2, h3⟩ := hs 0 d env rfl h
    obtain ⟨e, h4, h5⟩ := forRun_inv P r e2 (k + 1) h3 (fun i d' e' hd hp => by
      have := hs (i + 1) d' e' (by simpa using hd) (by rw [show k + (i + 1) = k + 1 + i by omega]; exact hp)
      rw [show k + (i + 1) + 1 = k + 1 + i + 1 by omega] at this
      exact this)
    refine ⟨e, ?_, by rw [List.length_cons, show k + (r.length + 1) = k + 1 + r.length by omega]; exact h5⟩
    simp only [forRun, h1, Option.bind_some]
    rcases h2 with h2 | h2 <;> simp only [h2, Option.bind_some, h4]

theorem fmod_pos {a b : Int} (h : 0 < b) : a.fmod b = a % b := Int.fmod_eq_emod_of_nonneg a (by omega)
theorem fdiv_pos {a b : Int} (h : 0 < b) : a.fdiv b = a / b := Int.fdiv_eq_ediv_of_nonneg a (by omega)
/-- draws: so many numbers from 0 to base -/
theorem draws (cell many base : Int) (hm : 0 ≤ many) (hm2 : many ≤ 1000) (hb : 0 < base) (hb2 : base < 2 ^ 60) :
    ∃ xs : List Int, Q.law_draws [.p (.int cell), .p (.int many), .p (.int base)] = some (.ml (xs.map fun x => T.p (.int x))) ∧ xs.length = many.toNat ∧ ∀ x ∈ xs, 0 ≤ x ∧ x < base := by
  unfold Q.law_draws runFn startE
  have hs : smallI (many + 3) := by unfold smallI; omega
  have hml : mulOk cell (if 1000000000000000000 ≤ cell then 1 else 0) = true := mulOk_r (by split <;> decide)
  have h48 : ∀ x : Int, mulOk 48271 x = true := fun x => mulOk_l (by decide)
  simp [LIM, hml, hs]
  generalize hr0 : cell * (if 1000000000000000000 ≤ cell then 1 else 0) = rest0
  let P : Nat → En → Prop := fun i e => ∃ (xs : List Int) (rest st : Int) (lk : Option T), e = [some (T.p (.int cell)), some (T.p (.int many)), some (T.p (.int base)), some (.ml (xs.map fun x => T.p (.int x))), some (.p (.int rest)), some (.p (.int st)), lk] ∧ xs.length = i - 3 ∧ (∀ x ∈ xs, 0 ≤ x ∧ x < base) ∧ 0 ≤ st ∧ st < 2305843009213693951
  have h0 : P 0 [some (T.p (.int cell)), some (T.p (.int many)), some (T.p (.int base)), some (.ml []), some (.p (.int rest0)), some (.p (.int (cell.fmod 2305843009213693951))), none] := by
    refine ⟨[], rest0, _, none, rfl, rfl, by simp, ?_⟩
    rw [fmod_pos (by decide)]
    omega
  have hstep : ∀ i d e, (rangeD 0 (many + 3))[i]? = some d → P (0 + i) e → ∃ e1 e2, gNm 6 d e = some e1 ∧ (Q.law_draws_L1 e1 = some (.nx e2) ∨ Q.law_draws_L1 e1 = some (.ct e2)) ∧ P (0 + i + 1) e2 := by
    rintro i d e hd ⟨xs, rest, st, lk, rfl, hl, hx, h0, h1⟩
    unfold Q.law_draws_L1
    have hi : i < (many + 3).toNat := by
      have := (List.getElem?_eq_some_iff.mp hd).1
      simpa [rangeD] using this
    have hd' : d = .int i := by
      simp [rangeD, hi] at hd
      exact hd.symm
    subst hd'
    have hst : mulOk st st = true := mulOk_l (by omega)
    have h4 : divOk 4096 = true := by decide
    have hbd : divOk base = true := divOk_small (by omega) (by omega)
    have hb0 : base ≠ 0 := by omega
    generalize hn : ((st * st + 48271 * st + (i : Int) + 1) % 2305843009213693951) = st'
    have hst' : 0 ≤ st' ∧ st' < 2305843009213693951 := by
      rw [← hn]; omega
    have hfl : xs.length < 1000000 := by omega
    by_cases hi2 : (2 : Int) < (i : Int)
    · have hi3 : 2 < i := by omega
      by_cases hr : 0 < rest
      · refine ⟨_, [some (T.p (.int cell)), some (T.p (.int many)), some (T.p (.int base)), some (.ml ((xs ++ [rest.fmod base]).map fun x => T.p (.int x))), some (.p (.int (rest.fdiv base))), some (.p (.int st')), some (.p (.int i))], rfl, .inl ?_, xs ++ [rest.fmod base], _, _, _, rfl, ?_, ?_, hst'⟩
        · simp [hst, h48, hi2, hi3, hr, hb0, hbd, LIM, hfl, fmod_pos, hn]
        · simp; omega
        · intro x hx'
          rcases List.mem_append.mp hx' with z | z
          · exact hx x z
          · have : x = rest.fmod base := by simpa using z
            subst this
            rw [fmod_pos hb]
            exact ⟨Int.emod_nonneg _ (by omega), Int.emod_lt_of_pos _ hb⟩
      · refine ⟨_, [some (T.p (.int cell)), some (T.p (.int many)), some (T.p (.int base)), some (.ml ((xs ++ [(st'.fdiv 4096).fmod base]).map fun x => T.p (.int x))), some (.p (.int rest)), some (.p (.int st')), some (.p (.int i))], rfl, .inl ?_, xs ++ [(st'.fdiv 4096).fmod base], _, _, _, rfl, ?_, ?_, hst'⟩
        · simp [hst, h48, hi2, hi3, hr, hb0, h4, LIM, hfl, fmod_pos, hn]
        · simp; omega
        · intro x hx'
          rcases List.mem_append.mp hx' with z | z
          · exact hx x z
          · have : x = (st'.fdiv 4096).fmod base := by simpa using z
            subst this
            rw [fmod_pos hb]
            exact ⟨Int.emod_nonneg _ (by omega), Int.emod_lt_of_pos _ hb⟩
    · have hi3 : ¬ 2 < i := by omega
      refine ⟨_, [some (T.p (.int cell)), some (T.p (.int many)), some (T.p (.int base)), some (.ml (xs.map fun x => T.p (.int x))), some (.p (.int rest)), some (.p (.int st')), some (.p (.int i))], rfl, .inl ?_, xs, _, _, _, rfl, ?_, hx, hst'⟩
      · simp [hst, h48, hi2, hi3, fmod_pos, hn]
      · omega
  obtain ⟨e, he, xs, rest, st, lk, hee, hl, hx⟩ := forRun_inv P _ _ 0 h0 hstep
  refine ⟨xs, ?_, ?_, hx.1⟩
  · rw [he, hee]
    simp
  · rw [hl]
    simp [rangeD]
    omega
end B
namespace B
open PySem PySem.Spec PyProof.Rows L2 M

abbrev Buy := List Int × List Int
def enI (xs : List Int) : List D := xs.map PyData.int
def enB (b : Buy) : D := .tuple [.tuple (enI b.1), .tuple (enI b.2)]
def enBk (bk : List Buy) : D := .list (bk.map enB)
structure Good (n : Nat) (b : Buy) : Prop where
  lp : b.1.length = n
  la : b.2.length = n
  pr : ∀ p ∈ b.1, 1 ≤ p ∧ p ≤ 1000000
  am : ∀ a ∈ b.2, 0 ≤ a ∧ a ≤ 1000000
  ps : ∃ a ∈ b.2, 0 < a
structure ValidBook (n : Nat) (bk : List Buy) : Prop where
  n1 : 1 ≤ n
  n6 : n ≤ 6
  ne : 1 ≤ bk.length
  all : ∀ b ∈ bk, Good n b

theorem stepS {a b : SM} {env e : En} (h : a env = some (.nx e)) : sCons a b env = b e := by simp [h]
theorem lcRun_of {α : Type} {g : D → En → Option En} {tt : En → Option Bool} {me : EM} {env : En} (en : α → D) (p : α → Bool) (f : α → D) : ∀ (xs : List α), (∀ x ∈ xs, ∃ e, g (en x) env = some e ∧ tt e = some (p x) ∧ (p x = true → me e = some (.p (f x)))) →
    lcRun g tt me env (xs.map en) = some ((xs.filter p).map f)
  | [], _ => rfl
  | x :: r, h => by
    obtain ⟨e, h1, h2, h3⟩ := h x List.mem_cons_self
    have ih := lcRun_of en p f r (fun y hy => h y (List.mem_cons_of_mem _ hy))
    simp only [List.map_cons, lcRun, h1, h2, Option.bind_some]
    cases hp : p x with
    | true => simp [h3 hp, ih, hp]
    | false => simp [ih, hp]
theorem lcRun_map {α : Type} {g : D → En → Option En} {tt : En → Option Bool} {me : EM} {env : En} (en : α → D) (f : α → D) (xs : List α) (h : ∀ x ∈ xs, ∃ e, g (en x) env = some e ∧ tt e = some true ∧ me e = some (.p (f x))) :
    lcRun g tt me env (xs.map en) = some (xs.map f) := by
  have := lcRun_of (g := g) (tt := tt) (me := me) (env := env) en (fun _ => true) f xs (fun x hx => by
    obtain ⟨e, h1, h2, h3⟩ := h x hx
    exact ⟨e, h1, h2, fun _ => h3⟩)
  rw [this, List.filter_eq_self.mpr (fun _ _ => rfl)]
theorem lc_ints {g : D → En → Option En} {tt : En → Option Bool} {me : EM} {env : En} (f : Int → Int) (xs : List Int) (h : ∀ x ∈ xs, ∃ e, g (.int x) env = some e ∧ tt e = some true ∧ me e = some (.p (.int (f x)))) :
    lcRun g tt me env (enI xs) = some (enI (xs.map f)) := by
  have := lcRun_map PyData.int (fun x => .int (f x)) xs h
  unfold enI
  rw [this, List.map_map]
  rfl
theorem cut_to {α : Type} (xs : List α) (k : Int) (h : 0 ≤ k) : cutL xs none (some k) = xs.take k.toNat := by
  unfold cutL HT.sIx
  simp only [if_neg (show ¬ k < 0 by omega)]
  simp
theorem cut_ft {α : Type} (xs : List α) (a b : Int) (h : 0 ≤ a) (h2 : 0 ≤ b) : cutL xs (some a) (some b) = (xs.drop a.toNat).take (b.toNat - a.toNat) := by
  unfold cutL HT.sIx
  simp only [if_neg (show ¬ a < 0 by omega), if_neg (show ¬ b < 0 by omega)]
  by_cases ha : a.toNat ≤ xs.length
  · rw [Nat.min_eq_left ha, List.take_eq_take_iff]
    simp
    omega
  · rw [List.drop_eq_nil_of_le (by omega), List.drop_eq_nil_of_le (by omega)]
    simp
theorem enI_length (xs : List Int) : (enI xs).length = xs.length := by simp [enI]
theorem atI_enI {xs : List Int} {i : Int} (h0 : 0 ≤ i) (h1 : i < xs.length) : atI (enI xs) i = some (.int (xs.getD i.toNat 0)) := by
  rw [atI_lt h0 (by rw [enI_length]; exact h1)]
  unfold enI
  have : i.toNat < xs.length := by omega
  simp [List.getD, this]
theorem getD_mem {xs : List Int} {k : Nat} (h : k < xs.length) : xs.getD k 0 ∈ xs := by
  simp [List.getD, h]
theorem callT_ml {fn : List T → Option T} {ts : List T} {xs : List Int} (hf : ts.all T.frozen = true) (h : fn ts = some (.ml (xs.map fun x => T.p (.int x)))) : callT fn ts = some (.p (.list (enI xs))) := by
  unfold callT
  rw [if_pos hf, h]
  simp only [Option.bind_some, T.snap, snaps_ints, Option.map_some]
  rfl
theorem callT_p {fn : List T → Option T} {ts : List T} {d : D} (hf : ts.all T.frozen = true) (h : fn ts = some (.p d)) : callT fn ts = some (.p d) := by
  unfold callT
  rw [if_pos hf, h]
  simp
theorem c_draws (cell many base : Int) (hm : 0 ≤ many) (hm2 : many ≤ 1000) (hb : 0 < base) (hb2 : base < 2 ^ 60) :
    ∃ xs : List Int, callT Q.law_draws [.p (.int cell), .p (.int many), .p (.int base)] = some (.p (.list (enI xs))) ∧ xs.length = many.toNat ∧ ∀ x ∈ xs, 0 ≤ x ∧ x < base := by
  obtain ⟨xs, h1, h2, h3⟩ := draws cell many base hm hm2 hb hb2
  exact ⟨xs, callT_ml rfl h1, h2, h3⟩
theorem c_cell_at (ns : List Int) (k : Int) (hk : 0 ≤ k) : ∃ c, callT Q.law_cell_at [.sc ns, .p (.int k)] = some (.p (.int c)) := by
  by_cases h : k < (ns.length : Int)
  · refine ⟨ns[k.toNat]'(by omega), callT_p rfl ?_⟩
    unfold Q.law_cell_at runFn startE
    simp [h, atI_lt hk h]
  · refine ⟨0, callT_p rfl ?_⟩
    unfold Q.law_cell_at runFn startE
    simp [h]

theorem best_good (ps ws : List Int) (m : Int) (hp : ps ≠ []) (hl : ps.length ≤ ws.length) (hps : ∀ p ∈ ps, 1 ≤ p ∧ p ≤ 1000000) (hlen : ps.length ≤ 6) :
    ∃ b : Nat, b < ps.length ∧ callT Q.law_best_good [.p (.list (enI ps)), .p (.list (enI ws)), .p (.int m)] = some (.p (.list (enI ((List.range ps.length).map fun k => m * (if k = b then 1 else 0))))) := by
  have hlp : 0 < ps.length := List.length_pos_iff.mpr hp
  let P : Nat → En → Prop := fun i e => ∃ (b : Nat) (o4 o5 : Option T), e = [some (.p (.list (enI ps))), some (.p (.list (enI ws))), some (.p (.int m)), some (.p (.int b)), o4, o5] ∧ b < ps.length
  have hstep : ∀ i d e, (rangeD 0 ps.length)[i]? = some d → P (0 + i) e → ∃ e1 e2, gNm 4 d e = some e1 ∧ (Q.law_best_good_L1 e1 = some (.nx e2) ∨ Q.law_best_good_L1 e1 = some (.ct e2)) ∧ P (0 + i + 1) e2 := by
    rintro i d e hd ⟨b, o4, o5, rfl, hb⟩
    have hi : i < ps.length := by
      have := (List.getElem?_eq_some_iff.mp hd).1
      simpa [rangeD] using this
    have hd' : d = .int i := by
      simp [rangeD, hi] at hd
      exact hd.symm
    subst hd'
    have a1 : atI (enI ws) (i : Int) = some (.int (ws.getD i 0)) := by
      have := atI_enI (xs := ws) (i := (i : Int)) (by omega) (by omega)
      simpa using this
    have a2 : atI (enI ws) (b : Int) = some (.int (ws.getD b 0)) := by
      have := atI_enI (xs := ws) (i := (b : Int)) (by omega) (by omega)
      simpa using this
    have a3 : atI (enI ps) (i : Int) = some (.int (ps.getD i 0)) := by
      have := atI_enI (xs := ps) (i := (i : Int)) (by omega) (by omega)
      simpa using this
    have a4 : atI (enI ps) (b : Int) = some (.int (ps.getD b 0)) := by
      have := atI_enI (xs := ps) (i := (b : Int)) (by omega) (by omega)
      simpa using this
    have m1 : ∀ x : Int, mulOk (1 + x.fmod 9) (ps.getD b 0) = true := fun x => mulOk_l (by rw [fmod_pos (by decide)]; omega)
    have m2 : ∀ x : Int, mulOk (1 + x.fmod 9) (ps.getD i 0) = true := fun x => mulOk_l (by rw [fmod_pos (by decide)]; omega)
    unfold Q.law_best_good_L1
    by_cases hc : (1 + (ws.getD b 0).fmod 9) * ps.getD i 0 < (1 + (ws.getD i 0).fmod 9) * ps.getD b 0
    · exact ⟨_, [some (.p (.list (enI ps))), some (.p (.list (enI ws))), some (.p (.int m)), some (.p (.int (i : Int))), some (.p (.int (i : Int))), some (.p (.int ((1 + (ws.getD i 0).fmod 9) * ps.getD b 0)))], rfl, .inl (by simp [-List.getD_eq_getElem?_getD, a1, a2, a3, a4, m1, m2, hc]), i, _, _, rfl, hi⟩
    · exact ⟨_, [some (.p (.list (enI ps))), some (.p (.list (enI ws))), some (.p (.int m)), some (.p (.int (b : Int))), some (.p (.int (i : Int))), some (.p (.int ((1 + (ws.getD i 0).fmod 9) * ps.getD b 0)))], rfl, .inl (by simp [-List.getD_eq_getElem?_getD, a1, a2, a3, a4, m1, m2, hc]), b, _, _, rfl, hb⟩
  obtain ⟨e, he, b, o4, o5, hee, hb⟩ := forRun_inv P (rangeD 0 ps.length) [some (.p (.list (enI ps))), some (.p (.list (enI ws))), some (.p (.int m)), some (.p (.int 0)), none, none] 0 ⟨0, _, _, rfl, hlp⟩ hstep
  refine ⟨b, hb, callT_p rfl ?_⟩
  unfold Q.law_best_good runFn startE
  have hs : smallI (ps.length : Int) := by unfold smallI; omega
  have hr : ∀ e, lcRun (gNm 4) bYes (mOp mulT (mVar 2) (mCall intT (aCons (mOp eqT (mVar 4) (mVar 3)) (aNil)))) [some (.p (.list (enI ps))), some (.p (.list (enI ws))), some (.p (.int m)), some (.p (.int (b : Int))), none, e] (rangeD 0 ps.length) = some (enI ((List.range ps.length).map fun k => m * (if k = b then 1 else 0))) := by
    intro e
    unfold rangeD
    have hz : ((ps.length : Int) - 0).toNat = ps.length := by omega
    rw [hz, lcRun_map (fun k : Nat => PyData.int (0 + (k : Int))) (fun k => .int (m * (if k = b then 1 else 0))) (List.range ps.length)]
    · unfold enI
      rw [List.map_map]
      rfl
    · intro k hk
      refine ⟨_, rfl, rfl, ?_⟩
      have hm : mulOk m (if k = b then 1 else 0) = true := mulOk_r (by split <;> decide)
      have hkb : ((k : Int) = (b : Int)) ↔ k = b := Int.ofNat_inj
      simp [hkb, hm]
  have hq : ps.length ≤ LIM := by unfold LIM; omega
  simp [enI_length, hs, he, hee, hr, hq]

theorem maxT_ints {xs : List Int} {m : Int} (h : maxI xs = some m) : maxT [.p (.list (enI xs))] = some (.p (.int m)) := by
  unfold enI
  simp [maxT, intsOf_map, h]
theorem maxT_mints {xs : List Int} {m : Int} (h : maxI xs = some m) : maxT [.ml ((enI xs).map T.p)] = some (.p (.int m)) := by
  have : (T.ml ((enI xs).map T.p)).any? = some (enI xs) := by
    simp only [T.any?, T.seq?, pures_map]
  have h2 : intsOf (enI xs) = some xs := intsOf_map xs
  simp only [maxT, this, Option.bind_some, h2, h, Option.map_some]
theorem maxI_some {xs : List Int} (h : xs ≠ []) : ∃ m, maxI xs = some m := by
  cases xs with
  | nil => exact absurd rfl h
  | cons x r => exact ⟨_, rfl⟩
theorem ixN_of {n : Nat} {i : Int} (h0 : 0 ≤ i) (h1 : i < n) : ixN n i = some i.toNat := by
  unfold ixN
  rw [if_pos h0, if_pos h1]
/-- what all amounts of the law's books keep -/
def Am (n : Nat) (xs : List Int) : Prop := xs.length = n ∧ ∀ x ∈ xs, 0 ≤ x

theorem exS {a b : SM} {env : En} {Post : En → Prop} (Q : En → Prop) (h1 : ∃ e, a env = some (.nx e) ∧ Q e) (h2 : ∀ e, Q e → ∃ e', b e = some (.nx e') ∧ Post e') : ∃ e', sCons a b env = some (.nx e') ∧ Post e' := by
  obtain ⟨e, h3, h4⟩ := h1
  obtain ⟨e', h5, h6⟩ := h2 e h4
  exact ⟨e', by rw [stepS h3]; exact h5, h6⟩
theorem exE {a b : SM} {env : En} {Post : En → Prop} (e : En) (h1 : a env = some (.nx e)) (h2 : ∃ e', b e = some (.nx e') ∧ Post e') : ∃ e', sCons a b env = some (.nx e') ∧ Post e' := by
  obtain ⟨e', h5, h6⟩ := h2
  exact ⟨e', by rw [stepS h1]; exact h5, h6⟩
theorem atI_ex {xs : List Int} {i : Int} (h0 : 0 ≤ i) (h1 : i < xs.length) : ∃ x ∈ xs, atI (enI xs) i = some (.int x) := ⟨_, getD_mem (by omega), atI_enI h0 h1⟩
def BkInv (ns heads : List Int) (at' far way : Int) (goods : Nat) (i : Nat) (e : En) : Prop := e.length = 18 ∧ e[0]? = some (some (.sc ns)) ∧ e[1]? = some (some (.p (.int at'))) ∧ e[3]? = some (some (.p (.list (enI heads)))) ∧ e[4]? = some (some (.p (.int goods))) ∧ e[6]? = some (some (.p (.int far))) ∧ e[7]? = some (some (.p (.int way))) ∧
  ∃ bk : List Buy, e[8]? = some (some (.ml (bk.map fun b => T.p (enB b)))) ∧ bk.length = i ∧ ∀ b ∈ bk, Good goods b

theorem canLay_ints : ∀ xs : List Int, PyData.canLayAll0 (enI xs) = true
  | [] => by simp [enI, PyData.canLayAll0]
  | x :: r => by
    have := canLay_ints r
    unfold enI at *
    simp [PyData.canLayAll0, PyData.canLay0, this]
theorem depth_enI (xs : List Int) : PyData.depthAll (enI xs) = 0 := depth_ints xs
theorem depth_enB (b : Buy) : PyData.depth (enB b) = 2 := by
  simp [enB, PyData.depth, PyData.depthAll, depth_enI]
theorem lay_bk : ∀ bk : List Buy, PyData.canLayAll0 (bk.map enB) = true ∧ PyData.depthAll (bk.map enB) ≤ 2
  | [] => by simp [PyData.canLayAll0, PyData.depthAll]
  | b :: r => by
    obtain ⟨h1, h2⟩ := lay_bk r
    have h3 := depth_enB b
    refine ⟨?_, ?_⟩
    · simp [PyData.canLayAll0, h1, enB, PyData.canLay0, canLay_ints]
    · simp only [List.map_cons, PyData.depthAll, h3]
      omega
theorem shaped_bk (bk : List Buy) : SeqAt.shaped (.list (bk.map enB)) = true := by
  obtain ⟨h1, h2⟩ := lay_bk bk
  simp [SeqAt.shaped, PyData.canLay0, h1, PyData.depth]
  omega
theorem book_turn (ns heads : List Int) (at' far way : Int) (goods : Nat) (h1 : 0 ≤ at') (hh : heads.length = 12) (hh2 : ∀ x ∈ heads, 0 ≤ x ∧ x < 1000000) (hg1 : 1 ≤ goods) (hg2 : goods ≤ 6) (hf : 3 ≤ far) (hf2 : far ≤ 1000000)
    (e : En) (i : Nat) (hi : i < 1000) (hinv : BkInv ns heads at' far way goods i e) (e9 : e[9]? = some (some (.p (.int i)))) :
    ∃ e', Q.law_a_book_L1 e = some (.nx e') ∧ BkInv ns heads at' far way goods (i + 1) e' := by
  obtain ⟨hl, e0, e1, e3, e4, e6, e7, bk, e8, hbl, hbk⟩ := hinv
  obtain ⟨c, hc⟩ := c_cell_at ns (at' + 1) (by omega)
  obtain ⟨h6, hh6m, hh6⟩ := atI_ex (xs := heads) (i := 6) (by decide) (by omega)
  have hh6r := hh2 h6 hh6m
  obtain ⟨picks, hp, hpl, hpx⟩ := c_draws (c + i * (h6 + 1)) 14 1000000000 (by decide) (by decide) (by decide) (by decide)
  have hpl : picks.length = 14 := hpl
  have hm1 : mulOk (i : Int) (h6 + 1) = true := mulOk_l (by omega)
  unfold Q.law_a_book_L1
  -- picks
  refine exE (e.set 10 (some (.p (.list (enI picks))))) (by simp [e0, e1, e3, e9, hc, hh6, hm1, hp]) ?_
  -- prices
  have hf0 : far ≠ 0 := by omega
  have hf1 : far + 1 ≠ 0 := by omega
  have hr1 : ∀ E : En, E.length = 18 → E[6]? = some (some (.p (.int far))) → lcRun (gNm 15) bYes (mOp addT (mC (.int 1)) (mOp modT (mVar 15) (mVar 6))) (E.set 15 none) (enI (picks.take goods)) = some (enI ((picks.take goods).map fun x => 1 + x % far)) := by
    intro E hE h6
    refine lc_ints _ _ fun x hx => ⟨_, rfl, rfl, ?_⟩
    simp [-getElem?_pos, h6, hE, hf0, fmod_pos (show 0 < far by omega)]
  have hc1 : cutL (enI picks) none (some (goods : Int)) = enI (picks.take goods) := by
    rw [cut_to _ _ (by omega)]; simp [enI, List.map_take]
  have hc2 : cutL (enI picks) (some 6) (some (6 + (goods : Int))) = enI ((picks.drop 6).take goods) := by
    rw [cut_ft _ _ _ (by omega) (by omega)]
    rw [show (6 + (goods : Int)).toNat - (6 : Int).toNat = goods by omega]
    simp [enI, List.map_take, List.map_drop]
  have hgl : goods ≤ LIM := by unfold LIM; omega
  have hmin1 : min goods 14 = goods := by omega
  have hmin2 : min goods 8 = goods := by omega
  obtain ⟨prices, hprd⟩ : ∃ x, x = (picks.take goods).map fun x => 1 + x % far := ⟨_, rfl⟩
  obtain ⟨sm, hsmd⟩ : ∃ x, x = (picks.drop 6).take goods := ⟨_, rfl⟩
  rw [← hsmd] at hc2
  rw [← hprd] at hr1
  have hprl : prices.length = goods := by simp [hprd, hpl, hmin1]
  have hpr : ∀ p ∈ prices, 1 ≤ p ∧ p ≤ far := by
    intro p hp'
    rw [hprd] at hp'
    obtain ⟨x, _, rfl⟩ := List.mem_map.mp hp'
    have := Int.emod_nonneg x hf0
    have := Int.emod_lt_of_pos x (show 0 < far by omega)
    omega
  have hsml : sm.length = goods := by simp [hsmd, hpl, hmin2]
  have hsm : ∀ x ∈ sm, 0 ≤ x ∧ x < 1000000000 := fun x hx => hpx x (List.mem_of_mem_drop (List.mem_of_mem_take (hsmd ▸ hx)))
  refine exE ((e.set 10 (some (.p (.list (enI picks))))).set 11 (some (.p (.list (enI prices))))) (by
    have := hr1 (e.set 10 (some (.p (.list (enI picks))))) (by simp [hl]) (by simp [e6])
    simp [-getElem?_pos, hl, e4, hc1, this, enI_length, hprl, hgl]) ?_
  refine exE (((e.set 10 (some (.p (.list (enI picks))))).set 11 (some (.p (.list (enI prices))))).set 12 (some (.p (.list (enI sm))))) (by
    simp [-getElem?_pos, hl, e4, hc2]) ?_
  generalize hB : ((e.set 10 (some (.p (.list (enI picks))))).set 11 (some (.p (.list (enI prices))))).set 12 (some (.p (.list (enI sm)))) = B
  have bl : B.length = 18 := by rw [← hB]; simp [hl]
  have b0 : B[0]? = some (some (.sc ns)) := by rw [← hB]; simp [e0]
  have b1 : B[1]? = some (some (.p (.int at'))) := by rw [← hB]; simp [e1]
  have b3 : B[3]? = some (some (.p (.list (enI heads)))) := by rw [← hB]; simp [e3]
  have b4 : B[4]? = some (some (.p (.int goods))) := by rw [← hB]; simp [e4]
  have b6 : B[6]? = some (some (.p (.int far))) := by rw [← hB]; simp [e6]
  have b7 : B[7]? = some (some (.p (.int way))) := by rw [← hB]; simp [e7]
  have b8 : B[8]? = some (some (.ml (bk.map fun b => T.p (enB b)))) := by rw [← hB]; simp [e8]
  have b10 : B[10]? = some (some (.p (.list (enI picks)))) := by rw [← hB]; simp [-getElem?_pos, hl]
  have b11 : B[11]? = some (some (.p (.list (enI prices)))) := by rw [← hB]; simp [-getElem?_pos, hl]
  have b12 : B[12]? = some (some (.p (.list (enI sm)))) := by rw [← hB]; simp [-getElem?_pos, hl]
  clear hB
  have hlc : ∀ xs : List Int, xs.length = goods → (enI xs).length ≤ LIM := fun xs h => by rw [enI_length, h]; exact hgl
  -- amounts by chance
  refine exS (fun E => ∃ am, E = B.set 13 (some (.p (.list (enI am)))) ∧ Am goods am) ⟨_, by
    have : lcRun (gNm 15) bYes (mOp mulT (mOp modT (mVar 15) (mOp addT (mVar 6) (mC (.int 1)))) (mCall intT (aCons (mOp gtT (mOp modT (mVar 15) (mC (.int 5))) (mC (.int 0))) (aNil)))) (B.set 15 none) (enI sm) = some (enI (sm.map fun x => x % (far + 1) * (if 0 < x % 5 then 1 else 0))) := by
      refine lc_ints _ _ fun x hx => ⟨_, rfl, rfl, ?_⟩
      have hm : mulOk (x % (far + 1)) (if 0 < x % 5 then 1 else 0) = true := mulOk_r (by split <;> decide)
      simp [-getElem?_pos, b6, bl, hf1, fmod_pos (show 0 < far + 1 by omega), fmod_pos (show (0 : Int) < 5 by decide), hm]
    simp [-getElem?_pos, b12, bl, this, hlc (sm.map fun x => x % (far + 1) * (if 0 < x % 5 then 1 else 0)) (by simp [hsml])] <;> rfl, _, rfl, by simp [hsml], ?_⟩ ?_
  · intro x hx
    obtain ⟨y, _, rfl⟩ := List.mem_map.mp hx
    have := Int.emod_nonneg y hf1
    split <;> omega
  rintro _ ⟨am, rfl, ha⟩
  -- the best good
  obtain ⟨p12, hp12m, hp12⟩ := atI_ex (xs := picks) (i := 12) (by decide) (by omega)
  obtain ⟨p13, hp13m, hp13⟩ := atI_ex (xs := picks) (i := 13) (by decide) (by omega)
  have hp12r := hpx p12 hp12m
  have hp13r := hpx p13 hp13m
  refine exS (fun E => ∃ am, E = B.set 13 (some (.p (.list (enI am)))) ∧ Am goods am) ?_ ?_
  · by_cases hw : way = 1
    · have hc3 : cutL (enI heads) (some 6) (some (6 + (goods : Int))) = enI ((heads.drop 6).take goods) := by
        rw [cut_ft _ _ _ (by omega) (by omega)]
        rw [show (6 + (goods : Int)).toNat - (6 : Int).toNat = goods by omega]
        simp [enI, List.map_take, List.map_drop]
      obtain ⟨b, hb, hbg⟩ := best_good prices ((heads.drop 6).take goods) (1 + p12 % far) (fun z => by rw [z] at hprl; simp at hprl; omega) (by rw [hprl]; simp [hh]; omega) (fun p hp' => by have := hpr p hp'; omega) (by omega)
      refine ⟨_, by simp [-getElem?_pos, bl, b7, hw, b11, b3, b4, hc3, b10, hp12, b6, hf0, fmod_pos (show 0 < far by omega), hbg] <;> rfl, _, rfl, by simp [hprl], ?_⟩
      intro x hx
      obtain ⟨k, _, rfl⟩ := List.mem_map.mp hx
      have := Int.emod_nonneg p12 hf0
      split <;> omega
    · exact ⟨_, by simp [-getElem?_pos, bl, b7, hw] <;> rfl, am, rfl, ha⟩
  rintro _ ⟨am, rfl, ha⟩
  -- one that sates
  refine exS (fun E => ∃ am, E = B.set 13 (some (.p (.list (enI am)))) ∧ Am goods am) ?_ ?_
  · by_cases hw : way = 2
    · have : lcRun (gNm 16) bYes (mOp subT (mOp addT (mVar 6) (mC (.int 1))) (mVar 16)) ((B.set 13 (some (.p (.list (enI am))))).set 16 none) (enI prices) = some (enI (prices.map fun p => far + 1 - p)) := by
        refine lc_ints _ _ fun x hx => ⟨_, rfl, rfl, ?_⟩
        simp [-getElem?_pos, b6, bl]
      refine ⟨_, by simp [-getElem?_pos, bl, b7, hw, b11, this, hlc (prices.map fun p => far + 1 - p) (by simp [hprl])] <;> rfl, _, rfl, by simp [hprl], ?_⟩
      intro x hx
      obtain ⟨k, hk, rfl⟩ := List.mem_map.mp hx
      have := hpr k hk
      omega
    · exact ⟨_, by simp [-getElem?_pos, bl, b7, hw] <;> rfl, am, rfl, ha⟩
  rintro _ ⟨am, rfl, ha⟩
  -- otherwise
  refine exS (fun E => ∃ am, E = B.set 13 (some (.p (.list (enI am)))) ∧ Am goods am) ?_ ?_
  · by_cases hw : p13 % 9 = 0
    · have : lcRun (gNm 15) bYes (mOp modT (mVar 15) (mVar 6)) ((B.set 13 (some (.p (.list (enI am))))).set 15 none) (enI sm) = some (enI (sm.map fun p => p % far)) := by
        refine lc_ints _ _ fun x hx => ⟨_, rfl, rfl, ?_⟩
        simp [-getElem?_pos, b6, bl, hf0, fmod_pos (show 0 < far by omega)]
      refine ⟨_, by simp [-getElem?_pos, bl, b10, hp13, fmod_pos (show (0 : Int) < 9 by decide), hw, b4, hc2, this, hlc (sm.map fun p => p % far) (by simp [hsml])] <;> rfl, _, rfl, by simp [hsml], ?_⟩
      intro x hx
      obtain ⟨k, hk, rfl⟩ := List.mem_map.mp hx
      exact Int.emod_nonneg k hf0
    · exact ⟨_, by simp [-getElem?_pos, bl, b10, hp13, fmod_pos (show (0 : Int) < 9 by decide), hw] <;> rfl, am, rfl, ha⟩
  rintro _ ⟨am, rfl, ha⟩
  -- no more than a million
  have hcl : ∀ x ∈ am.map (fun x => min 1000000 x), 0 ≤ x ∧ x ≤ 1000000 := by
    intro x hx
    obtain ⟨k, hk, rfl⟩ := List.mem_map.mp hx
    have := ha.2 k hk
    omega
  refine exE (B.set 13 (some (.ml ((enI (am.map fun x => min 1000000 x)).map T.p)))) (by
    have : lcRun (gNm 17) bYes (mCall minT (aCons (mOp powT (mC (.int 10)) (mC (.int 6))) (aCons (mVar 17) (aNil)))) ((B.set 13 (some (.p (.list (enI am))))).set 17 none) (enI am) = some (enI (am.map fun x => min 1000000 x)) := by
      refine lc_ints _ _ fun x hx => ⟨_, rfl, rfl, ?_⟩
      simp [-getElem?_pos, bl]
    simp [-getElem?_pos, bl, this, hlc (am.map fun x => min 1000000 x) (by simp [ha.1])]) ?_
  generalize hcle : (am.map fun x => min 1000000 x) = cl at hcl
  have hcll : cl.length = goods := by rw [← hcle]; simp [ha.1]
  have hcne : cl ≠ [] := fun z => by rw [z] at hcll; simp at hcll; omega
  obtain ⟨mx, hmx⟩ := maxI_some hcne
  obtain ⟨hmx1, hmx2⟩ := maxI_spec hmx
  refine exS (fun E => ∃ am, E = B.set 13 (some (.ml ((enI am).map T.p))) ∧ am.length = goods ∧ (∀ x ∈ am, 0 ≤ x ∧ x ≤ 1000000) ∧ ∃ a ∈ am, 0 < a) ?_ ?_
  · by_cases hw : mx = 0
    · have hg0 : (goods : Int) ≠ 0 := by omega
      have hg0' : goods ≠ 0 := by omega
      have hk0 := Int.emod_nonneg p12 hg0
      have hk1 := Int.emod_lt_of_pos p12 (show 0 < (goods : Int) by omega)
      have hix : ixN ((enI cl).map T.p).length (p12 % goods) = some (p12 % (goods : Int)).toNat := ixN_of hk0 (by rw [List.length_map, enI_length, hcll]; exact hk1)
      refine ⟨_, by simp [-getElem?_pos, -List.length_map, bl, maxT_mints hmx, hw, b10, hp12, b4, hg0', fmod_pos (show 0 < (goods : Int) by omega), setN, hix] <;> rfl, cl.set (p12 % (goods : Int)).toNat 1, ?_, by simp [hcll], ?_, ?_⟩
      · simp [enI, List.map_set]
      · intro x hx
        rcases List.mem_or_eq_of_mem_set hx with z | z
        · exact hcl x z
        · subst z; decide
      · exact ⟨1, List.mem_set (by rw [hcll]; omega) 1, by decide⟩
    · refine ⟨_, by simp [-getElem?_pos, bl, maxT_mints hmx, hw] <;> rfl, cl, rfl, hcll, hcl, mx, hmx1, ?_⟩
      have := hcl mx hmx1
      omega
  rintro _ ⟨fm, rfl, hfl, hfr, hfp⟩
  -- frozen; the buying
  have hfz : ∀ m : SM, sFrz 13 m (B.set 13 (some (.ml ((enI fm).map T.p)))) = m (B.set 13 (some (.p (.list (enI fm))))) := by
    intro m
    have : (T.ml ((enI fm).map T.p)).snap = some (.list (enI fm)) := by simp [T.snap, snaps_p]
    simp [-getElem?_pos, bl, this]
  rw [hfz]
  have h2L : 2 ≤ LIM := by decide
  have hL0 : 0 ≤ LIM := Nat.zero_le _
  refine exE ((B.set 13 (some (.p (.list (enI fm))))).set 14 (some (.p (enB (prices, fm))))) (by
    simp [-getElem?_pos, bl, b11, h2L, enB]) ?_
  generalize hC : B.set 13 (some (.p (.list (enI fm)))) = C
  have cl' : C.length = 18 := by rw [← hC]; simp [bl]
  have c8 : C[8]? = some (some (.ml (bk.map fun b => T.p (enB b)))) := by rw [← hC]; simp [b8]
  have c10 : C[10]? = some (some (.p (.list (enI picks)))) := by rw [← hC]; simp [b10]
  have hgb : Good goods (prices, fm) := ⟨hprl, hfl, fun p hp' => by have := hpr p hp'; omega, hfr, hfp⟩
  have hbs : (T.ml (bk.map fun b => T.p (enB b))).snap = some (.list (bk.map enB)) := by
    have := snaps_p (bk.map enB)
    rw [List.map_map] at this
    simp only [T.snap]
    rw [show (bk.map fun b => T.p (enB b)) = bk.map (T.p ∘ enB) from rfl, this]
    rfl
  refine exS (fun E => ∃ b, E = C.set 14 (some (.p (enB b))) ∧ Good goods b) ?_ ?_
  · have hd9 : divOk 9 = true := by decide
    have hd63 : divOk 63 = true := by decide
    have hne : neT (.ml (bk.map fun b => T.p (enB b))) (.p (.list [])) = some (.p (.bool (!bk.isEmpty))) := by
      have h1 : SeqAt.shaped (.list (bk.map enB)) = true := shaped_bk bk
      have h2 : SeqAt.shaped (.list []) = true := by simp [SeqAt.shaped, PyData.canLay0, PyData.canLayAll0, PyData.depth, PyData.depthAll]
      simp only [M.neT, hbs, ev_snap, Option.bind_some, h1, h2, and_self, if_true]
      cases bk <;> simp [PyData.eqv, PyData.eqvAll]
    by_cases hw : bk = []
    · exact ⟨_, by simp [-getElem?_pos, cl', c8, hne, hw, hL0] <;> rfl, _, rfl, hgb⟩
    · by_cases hw2 : p13 / 9 % 7 = 0
      · have hb0 : (bk.length : Int) ≠ 0 := by have := List.length_pos_iff.mpr hw; omega
        have hb0' : bk.length ≠ 0 := by omega
        have hbp : (0 : Int) < (bk.length : Int) := by have := List.length_pos_iff.mpr hw; omega
        have hk0 := Int.emod_nonneg (p13 / 63) hb0
        have hk1 := Int.emod_lt_of_pos (p13 / 63) hbp
        obtain ⟨j, hj⟩ : ∃ j : Nat, (p13 / 63) % (bk.length : Int) = j := ⟨((p13 / 63) % (bk.length : Int)).toNat, by omega⟩
        have hjl : j < bk.length := by omega
        have hat : atI (bk.map fun b => T.p (enB b)) (j : Int) = some (T.p (enB bk[j])) := by
          rw [atI_lt (by omega) (by simp; omega)]; simp
        have hat1 : atI [PyData.tuple (enI bk[j].1), PyData.tuple (enI bk[j].2)] 1 = some (.tuple (enI bk[j].2)) := rfl
        have hat0 : atI [PyData.tuple (enI prices), PyData.tuple (enI fm)] 0 = some (.tuple (enI prices)) := rfl
        have hgj := hbk bk[j] (List.getElem_mem hjl)
        refine ⟨_, by
          simp [-getElem?_pos, cl', c8, hne, hw, hL0, c10, hp13, hd9, hd63, fdiv_pos (show (0 : Int) < 9 by decide), fdiv_pos (show (0 : Int) < 63 by decide), fmod_pos (show (0 : Int) < 7 by decide), hw2, hb0, fmod_pos hbp, hj, hat]
          simp [enB, hat0, hat1, h2L] <;> rfl, (prices, bk[j].2), rfl, ⟨hprl, hgj.la, hgb.pr, hgj.am, hgj.ps⟩⟩
      · exact ⟨_, by simp [-getElem?_pos, cl', c8, hne, hw, hL0, c10, hp13, hd9, fdiv_pos (show (0 : Int) < 9 by decide), fmod_pos (show (0 : Int) < 7 by decide), hw2] <;> rfl, _, rfl, hgb⟩
  rintro _ ⟨b, rfl, hgb'⟩
  have hbl2 : bk.length < LIM := by unfold LIM; omega
  refine ⟨_, by simp [-getElem?_pos, cl', c8, hbl2] <;> rfl, ?_⟩
  refine ⟨by simp [cl'], ?_, ?_, ?_, ?_, ?_, ?_, bk ++ [b], ?_, by simp [hbl], ?_⟩
  · rw [← hC]; simp [b0]
  · rw [← hC]; simp [b1]
  · rw [← hC]; simp [b3]
  · rw [← hC]; simp [b4]
  · rw [← hC]; simp [b6]
  · rw [← hC]; simp [b7]
  · simp [-getElem?_pos, cl']
  · intro x hx
    rcases List.mem_append.mp hx with z | z
    · exact hbk x z
    · have : x = b := by simpa using z
      subst this; exact hgb'
end B
namespace B
open PySem PySem.Spec PyProof.Rows L2 M

theorem snap_bk (bk : List Buy) : (T.ml (bk.map fun b => T.p (enB b))).snap = some (enBk bk) := by
  have := snaps_p (bk.map enB)
  rw [List.map_map] at this
  simp only [T.snap]
  rw [show (bk.map fun b => T.p (enB b)) = bk.map (T.p ∘ enB) from rfl, this]
  rfl

theorem callT_snap {fn : List T → Option T} {ts : List T} {t : T} {d : D} (hf : ts.all T.frozen = true) (h : fn ts = some t) (hs : t.snap = some d) : callT fn ts = some (.p d) := by
  unfold callT
  rw [if_pos hf, h]
  simp [hs]
theorem a_book (ns : List Int) (at' most : Int) (h0 : 0 ≤ at') (hm : 1 ≤ most) (hm2 : most ≤ 100) :
    ∃ (n : Nat) (bk : List Buy), callT Q.law_a_book [.sc ns, .p (.int at'), .p (.int most)] = some (.p (enBk bk)) ∧ ValidBook n bk ∧ (bk.length : Int) ≤ most := by
  obtain ⟨c, hc⟩ := c_cell_at ns at' h0
  obtain ⟨heads, hp, hhl, hhx⟩ := c_draws c 12 1000000 (by decide) (by decide) (by decide) (by decide)
  have hhl : heads.length = 12 := hhl
  obtain ⟨h0', m0, q0⟩ := atI_ex (xs := heads) (i := 0) (by decide) (by omega)
  obtain ⟨h1, m1, q1⟩ := atI_ex (xs := heads) (i := 1) (by decide) (by omega)
  obtain ⟨h2, m2, q2⟩ := atI_ex (xs := heads) (i := 2) (by decide) (by omega)
  obtain ⟨h3, m3, q3⟩ := atI_ex (xs := heads) (i := 3) (by decide) (by omega)
  obtain ⟨h4, m4, q4⟩ := atI_ex (xs := heads) (i := 4) (by decide) (by omega)
  obtain ⟨h5, m5, q5⟩ := atI_ex (xs := heads) (i := 5) (by decide) (by omega)
  have h3L : 3 ≤ LIM := by decide
  have h2L : 2 ≤ LIM := by decide
  have h4L : 4 ≤ LIM := by decide
  have hL0 : 0 ≤ LIM := Nat.zero_le _
  have f6 : ∀ x : Int, x.fmod 6 = x % 6 := fun x => fmod_pos (by decide)
  have f2 : ∀ x : Int, x.fmod 2 = x % 2 := fun x => fmod_pos (by decide)
  have f3 : ∀ x : Int, x.fmod 3 = x % 3 := fun x => fmod_pos (by decide)
  have f4 : ∀ x : Int, x.fmod 4 = x % 4 := fun x => fmod_pos (by decide)
  have f5 : ∀ x : Int, x.fmod 5 = x % 5 := fun x => fmod_pos (by decide)
  have g2 : ∀ x : Int, x.fdiv 2 = x / 2 := fun x => fdiv_pos (by decide)
  have fm : ∀ x : Int, x.fmod most = x % most := fun x => fmod_pos (by omega)
  have hmn : min most 4 ≠ 0 := by omega
  have fmn : ∀ x : Int, x.fmod (min most 4) = x % (min most 4) := fun x => fmod_pos (by omega)
  have hm0 : most ≠ 0 := by omega
  have d2 : divOk 2 = true := by decide
  obtain ⟨g, hg, hg1, hg2⟩ : ∃ g : Nat, atI [PyData.int (1 + h0' % 6), .int 2, .int (2 + h0' % 2)] (h1 % 3) = some (.int g) ∧ 1 ≤ g ∧ g ≤ 6 := by
    have : h1 % 3 = 0 ∨ h1 % 3 = 1 ∨ h1 % 3 = 2 := by omega
    rcases this with z | z | z <;> rw [z]
    · exact ⟨(1 + h0' % 6).toNat, by simp [atI, ixN]; omega, by omega, by omega⟩
    · exact ⟨2, by simp [atI, ixN], by omega, by omega⟩
    · exact ⟨(2 + h0' % 2).toNat, by simp [atI, ixN]; omega, by omega, by omega⟩
  obtain ⟨many, hmany, hy1, hy2⟩ : ∃ many : Nat, atI [PyData.int (1 + h2 % most), .int (1 + h2 % min most 4)] (h3 % 3 / 2) = some (.int many) ∧ 1 ≤ many ∧ (many : Int) ≤ most := by
    have e1 := Int.emod_nonneg h2 hm0
    have e2 := Int.emod_lt_of_pos h2 (show 0 < most by omega)
    have e3 := Int.emod_nonneg h2 hmn
    have e4 := Int.emod_lt_of_pos h2 (show 0 < min most 4 by omega)
    have : h3 % 3 / 2 = 0 ∨ h3 % 3 / 2 = 1 := by omega
    rcases this with z | z <;> rw [z]
    · exact ⟨(1 + h2 % most).toNat, by simp [atI, ixN]; omega, by omega, by omega⟩
    · exact ⟨(1 + h2 % min most 4).toNat, by simp [atI, ixN]; omega, by omega, by omega⟩
  obtain ⟨far, hfar, hf1, hf2⟩ : ∃ far : Int, atI [PyData.int 3, .int 9, .int 60, .int 1000000] (h4 % 4) = some (.int far) ∧ 3 ≤ far ∧ far ≤ 1000000 := by
    have : h4 % 4 = 0 ∨ h4 % 4 = 1 ∨ h4 % 4 = 2 ∨ h4 % 4 = 3 := by omega
    rcases this with z | z | z | z <;> rw [z]
    · exact ⟨3, rfl, by omega, by omega⟩
    · exact ⟨9, rfl, by omega, by omega⟩
    · exact ⟨60, rfl, by omega, by omega⟩
    · exact ⟨1000000, rfl, by omega, by omega⟩
  have hs : smallI (many : Int) := by unfold smallI; omega
  let env0 : En := [some (.sc ns), some (.p (.int at')), some (.p (.int most)), some (.p (.list (enI heads))), some (.p (.int g)), some (.p (.int many)), some (.p (.int far)), some (.p (.int (h5 % 5))), some (.ml []), none, none, none, none, none, none, none, none, none]
  obtain ⟨e, he, hinv⟩ := forRun_inv (g := gNm 9) (mb := Q.law_a_book_L1) (BkInv ns heads at' far (h5 % 5) g) (rangeD 0 many) env0 0
    ⟨rfl, rfl, rfl, rfl, rfl, rfl, rfl, [], rfl, rfl, fun _ z => nomatch z⟩ (by
      intro i d e hd hP
      have hi : i < many := by
        have := (List.getElem?_eq_some_iff.mp hd).1
        simpa [rangeD] using this
      have hd' : d = .int i := by
        simp [rangeD, hi] at hd
        exact hd.symm
      subst hd'
      obtain ⟨hl, e0, e1, e3, e4, e6, e7, bk, e8, hbl, hbk⟩ := hP
      rw [Nat.zero_add] at hbl ⊢
      have hinv : BkInv ns heads at' far (h5 % 5) g i (e.set 9 (some (.p (.int i)))) := ⟨by simp [hl], by simp [e0], by simp [e1], by simp [e3], by simp [e4], by simp [e6], by simp [e7], bk, by simp [e8], hbl, hbk⟩
      obtain ⟨e', he', hinv'⟩ := book_turn ns heads at' far (h5 % 5) g h0 hhl hhx hg1 hg2 hf1 hf2 (e.set 9 (some (.p (.int i)))) i (by omega) hinv (by simp [-getElem?_pos, hl])
      exact ⟨_, e', rfl, .inl he', hinv'⟩)
  obtain ⟨hl, _, _, _, _, _, _, bk, e8, hbl, hbk⟩ := hinv
  have hbl : bk.length = many := by simpa [rangeD] using hbl
  refine ⟨g, bk, ?_, ⟨hg1, hg2, by omega, hbk⟩, by omega⟩
  have key : Q.law_a_book [.sc ns, .p (.int at'), .p (.int most)] = some (.ml (bk.map fun b => T.p (enB b))) := by
    unfold Q.law_a_book runFn startE
    simp [hc, hp, q0, q1, q2, q3, q4, q5, f6, f2, f3, f4, f5, g2, fm, fmn, hm0, hmn, d2, h3L, h2L, h4L, hL0, hg, hmany, hfar, hs]
    have he2 : forRun (gNm 9) Q.law_a_book_L1 (rangeD 0 many) [some (.sc ns), some (.p (.int at')), some (.p (.int most)), some (.p (.list (enI heads))), some (.p (.int g)), some (.p (.int many)), some (.p (.int far)), some (.p (.int (h5 % 5))), some (.ml []), none, none, none, none, none, none, none, none, none] = some (.nx e) := he
    rw [he2]
    simp [-getElem?_pos, e8]
  exact callT_snap rfl key (snap_bk bk)
end B
namespace B
open PySem PySem.Spec PyProof.Rows L2 M

def okPrice (p : Int) : Bool := decide (1 ≤ p ∧ p ≤ 1000000)
def okAmount (a : Int) : Bool := decide (0 ≤ a ∧ a ≤ 1000000)
def isBuying (b : Buy) : Bool := decide (1 ≤ b.1.length ∧ b.1.length ≤ 6) && decide (b.1.length = b.2.length) && b.1.all okPrice && b.2.all okAmount && b.2.any (fun a => decide (0 < a))
def enBl (xs : List Bool) : List D := xs.map PyData.bool
theorem lc_bools {α : Type} {g : D → En → Option En} {tt : En → Option Bool} {me : EM} {env : En} (en : α → D) (f : α → Bool) (xs : List α) (h : ∀ x ∈ xs, ∃ e, g (en x) env = some e ∧ tt e = some true ∧ me e = some (.p (.bool (f x)))) :
    lcRun g tt me env (xs.map en) = some (enBl (xs.map f)) := by
  have := lcRun_map en (fun x => .bool (f x)) xs h
  unfold enBl
  rw [this, List.map_map]
  rfl
theorem allT_b (xs : List Bool) : allT [.p (.list (enBl xs))] = some (.p (.bool (xs.all id))) := by
  unfold enBl
  simp [allT, boolsOf_map]
theorem maxT_t {xs : List Int} {m : Int} (h : maxI xs = some m) : maxT [.p (.tuple (enI xs))] = some (.p (.int m)) := by
  unfold enI
  simp [maxT, intsOf_map, h]
theorem minI_some {xs : List Int} (h : xs ≠ []) : ∃ m, minI xs = some m := by
  cases xs with
  | nil => exact absurd rfl h
  | cons x r => exact ⟨_, rfl⟩
theorem max_pos {xs : List Int} {m : Int} (h : maxI xs = some m) : decide (0 < m) = xs.any (fun a => decide (0 < a)) := by
  obtain ⟨h1, h2⟩ := maxI_spec h
  rw [Bool.eq_iff_iff]
  simp only [decide_eq_true_eq, List.any_eq_true]
  constructor
  · intro z; exact ⟨m, h1, z⟩
  · rintro ⟨x, hx, z⟩
    have := h2 x hx
    omega

theorem is_buying (b : Buy) (hb : b.1.length ≤ 1000) (hb2 : b.2.length ≤ 1000) : callT Q.is_buying [.p (enB b)] = some (.p (.bool (isBuying b))) := by
  obtain ⟨ps, as⟩ := b
  simp only at hb hb2
  refine callT_p rfl ?_
  unfold Q.is_buying runFn startE
  have h1 : ∀ E : En, E.length = 5 → lcRun (gNm 3) bYes (mChain leT leT (mC (.int 1)) (mVar 3) (mC (.int 1000000))) (E.set 3 none) (enI ps) = some (enBl (ps.map okPrice)) := by
    intro E hE
    refine lc_bools PyData.int okPrice ps fun x hx => ⟨_, rfl, rfl, ?_⟩
    simp [-getElem?_pos, hE, okPrice]
    by_cases h1 : 1 ≤ x <;> simp [h1]
  have h2 : ∀ E : En, E.length = 5 → lcRun (gNm 4) bYes (mChain leT leT (mC (.int 0)) (mVar 4) (mC (.int 1000000))) (E.set 4 none) (enI as) = some (enBl (as.map okAmount)) := by
    intro E hE
    refine lc_bools PyData.int okAmount as fun x hx => ⟨_, rfl, rfl, ?_⟩
    simp [-getElem?_pos, hE, okAmount]
    by_cases h1 : 0 ≤ x <;> simp [h1]
  have l1 := h1 [some (.p (enB (ps, as))), some (.p (.tuple (enI ps))), some (.p (.tuple (enI as))), none, none] rfl
  have l2 := h2 [some (.p (enB (ps, as))), some (.p (.tuple (enI ps))), some (.p (.tuple (enI as))), none, none] rfl
  simp only [List.set_cons_succ, List.set_cons_zero, enB] at l1 l2
  have q1 : ps.length ≤ LIM := by unfold LIM; omega
  have q2 : as.length ≤ LIM := by unfold LIM; omega
  have q3 : ∀ f : Int → Bool, (enBl (ps.map f)).length ≤ LIM := fun f => by unfold enBl; simp; exact q1
  have q4 : ∀ f : Int → Bool, (enBl (as.map f)).length ≤ LIM := fun f => by unfold enBl; simp; exact q2
  unfold isBuying
  by_cases c1 : 1 ≤ ps.length ∧ ps.length ≤ 6
  · have i1 : (1 : Int) ≤ (ps.length : Int) := by omega
    have i2 : (ps.length : Int) ≤ 6 := by omega
    by_cases c2 : ps.length = as.length
    · have i3 : (ps.length : Int) = (as.length : Int) := by omega
      have hne : as ≠ [] := fun z => by subst z; simp only [List.length_nil] at c2; omega
      obtain ⟨m, hm⟩ := maxI_some hne
      have hp := max_pos hm
      have c3 : 1 ≤ as.length ∧ as.length ≤ 6 := by omega
      have j1 : (1 : Int) ≤ (as.length : Int) := by omega
      have j2 : (as.length : Int) ≤ 6 := by omega
      have e1 : (ps.map okPrice).all id = ps.all okPrice := by simp [List.all_map]
      have e2 : (as.map okAmount).all id = as.all okAmount := by simp [List.all_map]
      cases a1 : ps.all okPrice
      · rw [a1] at e1
        simp [enB, enI_length, j1, j2, c2, c3, l1, q3, q4, allT_b, e1, a1, hp]
      · rw [a1] at e1
        cases a2 : as.all okAmount
        · rw [a2] at e2
          simp [enB, enI_length, j1, j2, c2, c3, l1, l2, q3, q4, allT_b, e1, a1, e2, a2, hp]
        · rw [a2] at e2
          simp [enB, enI_length, j1, j2, c2, c3, l1, l2, q3, q4, allT_b, e1, a1, e2, a2, hp, maxT_t hm]
    · have i3 : ¬ (ps.length : Int) = (as.length : Int) := by omega
      simp [enB, enI_length, i1, i2, i3, c1, c2]
  · have : ¬ (1 ≤ (ps.length : Int)) ∨ ¬ ((ps.length : Int) ≤ 6) := by omega
    rcases this with z | z
    · simp [enB, enI_length, z, c1]
    · by_cases z1 : (1 : Int) ≤ (ps.length : Int)
      · simp [enB, enI_length, z, z1, c1]
      · simp [enB, enI_length, z1, c1]
end B
namespace B
open PySem PySem.Spec PyProof.Rows L2 M

end B
namespace B
open PySem PySem.Spec PyProof.Rows L2 M

theorem oxE {a b : SM} {env : En} {Post : Out → Prop} (e : En) (h1 : a env = some (.nx e)) (h2 : ∃ o, b e = some o ∧ Post o) : ∃ o, sCons a b env = some o ∧ Post o := by
  obtain ⟨e', h5, h6⟩ := h2
  exact ⟨e', by rw [stepS h1]; exact h5, h6⟩
theorem run_of {n : Nat} {body : SM} {ts : List T} {t : T} (h : ∃ o, body (startE n ts) = some o ∧ o = .rt t) : runFn n body ts = some t := by
  obtain ⟨o, h1, rfl⟩ := h
  unfold runFn
  rw [h1]
  rfl
@[simp] theorem ev_atix {k : Nat} {π : List Stp} {ts : List T} : T.at (.ix k :: π) (.ml ts) = (ts[k]?).bind fun u => T.at π u := rfl
@[simp] theorem ev_putix {k : Nat} {π : List Stp} {ts : List T} {u : T} : T.put (.ix k :: π) (.ml ts) u = (ts[k]?).bind fun c => (T.put π c u).map fun c' => .ml (ts.set k c') := rfl
@[simp] theorem ev_mull {ds : List D} {j : Int} : mulT (.p (.list ds)) (.p (.int j)) = if rep62 ds.length j then some (.p (.list (List.replicate j.toNat ds).flatten)) else none := rfl
theorem mp_app (ps : List Int) (v : Int) : (enI ps).map T.p ++ [T.p (.int v)] = (enI (ps ++ [v])).map T.p := by simp [enI]
def mI (xs : List Int) : T := .ml ((enI xs).map T.p)
@[simp] theorem strip_mI (xs : List Int) : (mI xs).strip = mI xs := rfl
@[simp] theorem wrap_mI (xs : List Int) (u : T) : (mI xs).wrap u = u := rfl
theorem snap_mI (xs : List Int) : (mI xs).snap = some (.list (enI xs)) := by unfold mI; simp [T.snap, snaps_p]
theorem cutL_enB (bk : List Buy) (lo hi : Option Int) : cutL (bk.map enB) lo hi = (cutL bk lo hi).map enB := by
  unfold cutL
  simp [List.map_take, List.map_drop]
theorem nodup_sub_le : ∀ {l m : List Int}, l.Nodup → (∀ x ∈ l, x ∈ m) → l.length ≤ m.length
  | [], _, _, _ => Nat.zero_le _
  | x :: r, m, hn, hs => by
    obtain ⟨h1, h2⟩ := List.nodup_cons.mp hn
    have hx := hs x List.mem_cons_self
    have := nodup_sub_le (l := r) (m := m.erase x) h2 (fun y hy => by
      refine (List.mem_erase_of_ne ?_).mpr (hs y (List.mem_cons_of_mem _ hy))
      intro e; subst e; exact h1 hy)
    rw [List.length_erase_of_mem hx] at this
    have hp := List.length_pos_of_mem hx
    rw [List.length_cons]
    omega

theorem flat_enI (xs : List Int) : (enI xs).all flatD = true := by
  unfold enI
  simp [flatD]
theorem flat_int (x : Int) : flatD (.int x) = true := rfl
theorem any_eqv (xs : List Int) (x : Int) : ((enI xs).any fun z => PyData.eqv z (.int x)) = decide (x ∈ xs) := by
  unfold enI
  rw [Bool.eq_iff_iff]
  simp [PyData.eqv]
theorem notIn_l (xs : List Int) (x : Int) : notInT (.p (.int x)) (.p (.list (enI xs))) = some (.p (.bool (!decide (x ∈ xs)))) := by
  simp [notInT, -List.all_eq_true, flat_enI, any_eqv, flat_int]
theorem ne_nil_ints (xs : List Int) : M.neT (.p (.list (enI xs))) (.p (.list [])) = some (.p (.bool (!xs.isEmpty))) := by
  have h1 : SeqAt.shaped (.list (enI xs)) = true := by
    simp [SeqAt.shaped, PyData.canLay0, canLay_ints, PyData.depth, depth_enI]
  have h2 : SeqAt.shaped (.list []) = true := by simp [SeqAt.shaped, PyData.canLay0, PyData.canLayAll0, PyData.depth, PyData.depthAll]
  simp only [M.neT, ev_snap, Option.bind_some, h1, h2, and_self, if_true]
  cases xs <;> simp [enI, PyData.eqv, PyData.eqvAll]
end B
namespace B
open PySem PySem.Spec PyProof.Rows L2 M

def enQ (q : Rat) : D := .tuple [.int q.num, .int q.den]
@[simp] theorem ev_abs {i : Int} : absT [.p (.int i)] = some (.p (.int i.natAbs)) := by
  have : (if i < 0 then -i else i) = (i.natAbs : Int) := by split <;> omega
  simp only [absT, ev_int, Option.map_some, this]
@[simp] theorem ev_sPar {i j : Nat} {ms : En → Option (List T)} {env : En} : sPar i j ms env = (ms env).bind fun ts => (pures ts).bind fun ds => match ds with
  | [a, b] => some (.nx ((env.set i (some (.p a))).set j (some (.p b))))
  | _ => none := rfl
theorem gcd_run : ∀ (k x y n : Nat), y < 2 ^ k → 2 * k + 2 ≤ n → whileRun (bOp gtT (mVar 1) (mC (.int 0))) Q.divisor_L1 n [some (.p (.int x)), some (.p (.int y))] = some (.nx [some (.p (.int (Nat.gcd x y))), some (.p (.int 0))])
  | 0, x, y, n, hy, hn => by
    have hy0 : y = 0 := by simpa using hy
    subst hy0
    obtain ⟨m, rfl⟩ : ∃ m, n = m + 1 := ⟨n - 1, by omega⟩
    simp [whileRun]
  | k + 1, x, y, n, hy, hn => by
    obtain ⟨m, rfl⟩ : ∃ m, n = m + 1 := ⟨n - 1, by omega⟩
    by_cases h0 : y = 0
    · subst h0
      simp [whileRun]
    · have hyp : 0 < y := by omega
      have e1 : (x : Int).fmod (y : Int) = ((x % y : Nat) : Int) := by rw [fmod_pos (by omega)]; rfl
      have step : whileRun (bOp gtT (mVar 1) (mC (.int 0))) Q.divisor_L1 (m + 1) [some (.p (.int x)), some (.p (.int y))] = whileRun (bOp gtT (mVar 1) (mC (.int 0))) Q.divisor_L1 m [some (.p (.int y)), some (.p (.int ((x % y : Nat) : Int)))] := by
        have : Q.divisor_L1 [some (.p (.int x)), some (.p (.int y))] = some (.nx [some (.p (.int y)), some (.p (.int ((x % y : Nat) : Int)))]) := by
          unfold Q.divisor_L1
          simp [h0, -Int.natCast_emod, e1]
        simp only [whileRun, this]
        simp [hyp]
      rw [step]
      have hr : x % y < y := Nat.mod_lt _ hyp
      have hg : Nat.gcd x y = Nat.gcd y (x % y) := by rw [Nat.gcd_comm, Nat.gcd_rec, Nat.gcd_comm]
      by_cases h1 : x % y < 2 ^ k
      · rw [gcd_run k y (x % y) m h1 (by omega), hg]
      · obtain ⟨l, rfl⟩ : ∃ l, m = l + 1 := ⟨m - 1, by omega⟩
        obtain ⟨r, hrr⟩ : ∃ r, x % y = r := ⟨_, rfl⟩
        rw [hrr] at h1 hr hg ⊢
        have hrp : 0 < r := by have := Nat.two_pow_pos k; omega
        have hr0 : r ≠ 0 := by omega
        have e2 : (y : Int).fmod (r : Int) = ((y % r : Nat) : Int) := by rw [fmod_pos (by omega)]; rfl
        have step2 : whileRun (bOp gtT (mVar 1) (mC (.int 0))) Q.divisor_L1 (l + 1) [some (.p (.int y)), some (.p (.int r))] = whileRun (bOp gtT (mVar 1) (mC (.int 0))) Q.divisor_L1 l [some (.p (.int r)), some (.p (.int ((y % r : Nat) : Int)))] := by
          have : Q.divisor_L1 [some (.p (.int y)), some (.p (.int r))] = some (.nx [some (.p (.int r)), some (.p (.int ((y % r : Nat) : Int)))]) := by
            unfold Q.divisor_L1
            simp [hr0, -Int.natCast_emod, e2]
          simp only [whileRun, this]
          simp [hrp]
        rw [step2]
        have h2 : y % r < 2 ^ k := by
          have e3 : y % r = (y - r) % r := Nat.mod_eq_sub_mod (by omega)
          have e4 := Nat.mod_le (y - r) r
          have e5 : 2 ^ (k + 1) = 2 * 2 ^ k := by rw [Nat.pow_succ, Nat.mul_comm]
          omega
        have hg2 : Nat.gcd y r = Nat.gcd r (y % r) := by rw [Nat.gcd_comm, Nat.gcd_rec, Nat.gcd_comm]
        rw [gcd_run k r (y % r) l h2 (by omega), hg, hg2]

theorem divisor (a b : Int) (hb : b.natAbs < 2 ^ 100000) : callT Q.divisor [.p (.int a), .p (.int b)] = some (.p (.int (Int.gcd a b))) := by
  refine callT_p rfl ?_
  unfold Q.divisor
  refine run_of ?_
  rw [show startE 2 [T.p (.int a), T.p (.int b)] = [some (.p (.int a)), some (.p (.int b))] from rfl]
  refine oxE [some (.p (.int a.natAbs)), some (.p (.int b))] (by simp) ?_
  refine oxE [some (.p (.int a.natAbs)), some (.p (.int b.natAbs))] (by simp) ?_
  refine oxE [some (.p (.int (Nat.gcd a.natAbs b.natAbs))), some (.p (.int 0))] (by
    rw [ev_sWhile]
    exact gcd_run 100000 _ _ _ hb (by unfold FUEL; omega)) ?_
  exact ⟨_, rfl, rfl⟩

def Sz (k : Nat) (i : Int) : Prop := i.natAbs < 2 ^ k
theorem divOk_sz {j : Int} (h0 : j ≠ 0) (h : Sz 9000 j) : divOk j = true := by
  unfold divOk
  have : j.natAbs ≠ 0 := by omega
  have h2 : j.natAbs.log2 < 9000 := (Nat.log2_lt this).mpr h
  simp [h0, h2]
theorem fdiv_exact {a g : Int} (h : g ∣ a) : a.fdiv g = a / g := Int.fdiv_eq_ediv_of_dvd h
theorem fraction (a b : Int) (hb : b ≠ 0) (sb : Sz 9000 b) : callT Q.fraction [.p (.int a), .p (.int b)] = some (.p (enQ (Rat.divInt a b))) := by
  have hlt : (2 : Nat) ^ 9000 ≤ 2 ^ 100000 := Nat.pow_le_pow_right (by decide) (by decide)
  have hdv := divisor a b (Nat.lt_of_lt_of_le sb hlt)
  refine callT_p rfl ?_
  unfold Q.fraction
  refine run_of ?_
  rw [show startE 3 [T.p (.int a), T.p (.int b)] = [some (.p (.int a)), some (.p (.int b)), none] from rfl]
  obtain ⟨g, hg⟩ : ∃ g : Nat, Int.gcd a b = g := ⟨_, rfl⟩
  have hgp : 0 < g := by
    rw [← hg]; exact Int.gcd_pos_of_ne_zero_right a hb
  have d1 : (g : Int) ∣ a := by rw [← hg]; exact Int.gcd_dvd_left ..
  have d2 : (g : Int) ∣ b := by rw [← hg]; exact Int.gcd_dvd_right ..
  rw [hg] at hdv
  refine oxE [some (.p (.int a)), some (.p (.int b)), some (.p (.int g))] (by simp [hdv]) ?_
  have hgle : g ≤ b.natAbs := Nat.le_of_dvd (by omega) (by have := Int.natAbs_dvd_natAbs.mpr d2; rwa [Int.natAbs_natCast] at this)
  have sg : Sz 9000 (g : Int) := by unfold Sz at *; rw [Int.natAbs_natCast]; omega
  have sg' : Sz 9000 (-(g : Int)) := by unfold Sz at *; rw [Int.natAbs_neg, Int.natAbs_natCast]; omega
  have ok1 : divOk (g : Int) = true := divOk_sz (by omega) sg
  have ok2 : divOk (-(g : Int)) = true := divOk_sz (by omega) sg'
  have L2' : 2 ≤ LIM := by decide
  have hnum : (Rat.divInt a b).num = b.sign * a / g := by rw [Rat.num_divInt, Int.gcd_comm, hg]
  have hden : ((Rat.divInt a b).den : Int) = b.natAbs / g := by
    rw [Rat.den_divInt, if_neg hb, Int.gcd_comm, hg]; rfl
  by_cases hneg : b < 0
  · refine oxE [some (.p (.int a)), some (.p (.int b)), some (.p (.int (-(g : Int))))] (by simp [hneg]) ?_
    refine ⟨_, ?_, rfl⟩
    have e1 : a.fdiv (-(g : Int)) = (Rat.divInt a b).num := by
      rw [fdiv_exact (Int.neg_dvd.mpr d1), hnum, Int.sign_eq_neg_one_of_neg hneg]
      rw [Int.ediv_neg, Int.neg_mul, Int.one_mul, Int.neg_ediv_of_dvd d1]
    have e2 : b.fdiv (-(g : Int)) = (Rat.divInt a b).den := by
      rw [fdiv_exact (Int.neg_dvd.mpr d2), hden, Int.ediv_neg, ← Int.neg_ediv_of_dvd d2]
      congr 1; omega
    unfold enQ
    simp [ok2, e1, e2, L2']
  · refine oxE [some (.p (.int a)), some (.p (.int b)), some (.p (.int (g : Int)))] (by simp [hneg]) ?_
    refine ⟨_, ?_, rfl⟩
    have e1 : a.fdiv (g : Int) = (Rat.divInt a b).num := by
      rw [fdiv_exact d1, hnum, Int.sign_eq_one_of_pos (by omega), Int.one_mul]
    have e2 : b.fdiv (g : Int) = (Rat.divInt a b).den := by
      rw [fdiv_exact d2, hden]
      congr 1; omega
    unfold enQ
    simp [ok1, e1, e2, L2']

/-- a fraction of numbers below 2 ^ k -/
def SzQ (k : Nat) (q : Rat) : Prop := Sz k q.num ∧ Sz k (q.den : Int)
theorem Sz.mono {k l : Nat} {i : Int} (h : Sz k i) (hl : k ≤ l) : Sz l i := Nat.lt_of_lt_of_le h (Nat.pow_le_pow_right (by decide) hl)
theorem SzQ.mono {k l : Nat} {q : Rat} (h : SzQ k q) (hl : k ≤ l) : SzQ l q := ⟨h.1.mono hl, h.2.mono hl⟩
theorem Sz.mul {k l : Nat} {i j : Int} (h : Sz k i) (h2 : Sz l j) : Sz (k + l) (i * j) := by
  unfold Sz at *
  rw [Int.natAbs_mul, Nat.pow_add]
  exact Nat.mul_lt_mul_of_lt_of_le h (Nat.le_of_lt h2) (Nat.two_pow_pos _)
theorem Sz.add {k : Nat} {i j : Int} (h : Sz k i) (h2 : Sz k j) : Sz (k + 1) (i + j) := by
  unfold Sz at *
  rw [Nat.pow_succ]
  omega
theorem Sz.sub {k : Nat} {i j : Int} (h : Sz k i) (h2 : Sz k j) : Sz (k + 1) (i - j) := by
  unfold Sz at *
  rw [Nat.pow_succ]
  omega
theorem log2_sz {k : Nat} {i : Int} (h : Sz k i) : i.natAbs.log2 ≤ k := by
  by_cases h0 : i.natAbs = 0
  · rw [h0]; simp
  · exact Nat.le_of_lt ((Nat.log2_lt h0).mpr h)
theorem mulOk_sz {k l : Nat} {i j : Int} (h : Sz k i) (h2 : Sz l j) (hk : k + l < 1000000) : mulOk i j = true := by
  have a := log2_sz h
  have b := log2_sz h2
  have : i.natAbs.log2 + j.natAbs.log2 < 1000000 := by omega
  simp [mulOk, this]
theorem den_ne (q : Rat) : (q.den : Int) ≠ 0 := by have := q.den_nz; omega
theorem at_q0 (q : Rat) : atI [PyData.int q.num, PyData.int q.den] 0 = some (.int q.num) := rfl
theorem at_q1 (q : Rat) : atI [PyData.int q.num, PyData.int q.den] 1 = some (.int q.den) := rfl
theorem run_ret {n : Nat} {m : EM} {ts : List T} {d : D} (h : m (startE n ts) = some (.p d)) : runFn n (sRet m) ts = some (.p d) := by
  unfold runFn
  simp [h]
theorem plus (p q : Rat) (hp : SzQ 4400 p) (hq : SzQ 4400 q) : callT Q.plus [.p (enQ p), .p (enQ q)] = some (.p (enQ (p + q))) := by
  refine callT_p rfl ?_
  unfold Q.plus
  refine run_ret ?_
  have e : p + q = Rat.divInt (p.num * q.den + q.num * p.den) (p.den * q.den) := by
    have := Rat.divInt_add_divInt p.num q.num (den_ne p) (den_ne q)
    rw [Rat.num_divInt_den, Rat.num_divInt_den] at this
    exact this
  have h1 := fraction (p.num * q.den + q.num * p.den) (p.den * q.den) (Int.mul_ne_zero (den_ne p) (den_ne q)) ((hp.2.mul hq.2).mono (by decide))
  rw [← e] at h1
  unfold startE enQ at *
  simp [at_q0, at_q1, mulOk_sz hp.1 hq.2 (by decide), mulOk_sz hq.1 hp.2 (by decide), mulOk_sz hp.2 hq.2 (by decide), h1]
theorem minus (p q : Rat) (hp : SzQ 4400 p) (hq : SzQ 4400 q) : callT Q.minus [.p (enQ p), .p (enQ q)] = some (.p (enQ (p - q))) := by
  refine callT_p rfl ?_
  unfold Q.minus
  refine run_ret ?_
  have e : p - q = Rat.divInt (p.num * q.den - q.num * p.den) (p.den * q.den) := by
    have := Rat.divInt_sub_divInt p.num q.num (den_ne p) (den_ne q)
    rw [Rat.num_divInt_den, Rat.num_divInt_den] at this
    exact this
  have h1 := fraction (p.num * q.den - q.num * p.den) (p.den * q.den) (Int.mul_ne_zero (den_ne p) (den_ne q)) ((hp.2.mul hq.2).mono (by decide))
  rw [← e] at h1
  unfold startE enQ at *
  simp [at_q0, at_q1, mulOk_sz hp.1 hq.2 (by decide), mulOk_sz hq.1 hp.2 (by decide), mulOk_sz hp.2 hq.2 (by decide), h1]
theorem divInt_1 (k : Int) : Rat.divInt k 1 = (k : Rat) := by
  have := Rat.divInt_ofNat k 1
  rw [Rat.mkRat_one] at this
  exact this
theorem times (p : Rat) (k : Int) (hp : SzQ 8000 p) (hk : Sz 8000 k) : callT Q.times [.p (enQ p), .p (.int k)] = some (.p (enQ (p * k))) := by
  refine callT_p rfl ?_
  unfold Q.times
  refine run_ret ?_
  have e : p * k = Rat.divInt (p.num * k) p.den := by
    have := Rat.divInt_mul_divInt p.num k (d₁ := p.den) (d₂ := 1)
    rw [Rat.num_divInt_den, Int.mul_one, divInt_1] at this
    exact this
  have h1 := fraction (p.num * k) p.den (den_ne p) (hp.2.mono (by decide))
  rw [← e] at h1
  unfold startE enQ at *
  simp [at_q0, at_q1, mulOk_sz hp.1 hk (by decide), h1]
theorem over (p : Rat) (k : Int) (hk0 : k ≠ 0) (hp : SzQ 4400 p) (hk : Sz 4400 k) : callT Q.over [.p (enQ p), .p (.int k)] = some (.p (enQ (p / k))) := by
  refine callT_p rfl ?_
  unfold Q.over
  refine run_ret ?_
  have e : p / k = Rat.divInt p.num (p.den * k) := by
    have hk' : (k : Rat) ≠ 0 := by exact_mod_cast hk0
    have h1 : Rat.divInt p.num (p.den * k) * (k : Rat) = p := by
      have := Rat.divInt_mul_divInt p.num k (d₁ := p.den * k) (d₂ := 1)
      rw [divInt_1, Int.mul_one] at this
      rw [this, Rat.divInt_mul_right hk0, Rat.num_divInt_den]
    rw [← h1]
    rw [Rat.div_def, Rat.mul_assoc, Rat.mul_inv_cancel _ hk', Rat.mul_one]
    rw [h1]
  have h1 := fraction p.num (p.den * k) (Int.mul_ne_zero (den_ne p) hk0) ((hp.2.mul hk).mono (by decide))
  rw [← e] at h1
  unfold startE enQ at *
  simp [at_q0, at_q1, mulOk_sz hp.2 hk (by decide), h1]
theorem is_less (p q : Rat) (hp : SzQ 100000 p) (hq : SzQ 100000 q) : callT Q.is_less [.p (enQ p), .p (enQ q)] = some (.p (.bool (decide (p < q)))) := by
  refine callT_p rfl ?_
  unfold Q.is_less
  refine run_ret ?_
  unfold startE enQ
  simp [at_q0, at_q1, mulOk_sz hp.1 hq.2 (by decide), mulOk_sz hq.1 hp.2 (by decide), Rat.lt_iff]
theorem lesser (p q : Rat) (hp : SzQ 100000 p) (hq : SzQ 100000 q) : callT Q.lesser [.p (enQ p), .p (enQ q)] = some (.p (enQ (if q < p then q else p))) := by
  refine callT_p rfl ?_
  unfold Q.lesser runFn startE
  by_cases h : q < p <;> simp [is_less q p hq hp, h]
theorem greater (p q : Rat) (hp : SzQ 100000 p) (hq : SzQ 100000 q) : callT Q.greater [.p (enQ p), .p (enQ q)] = some (.p (enQ (if p < q then q else p))) := by
  refine callT_p rfl ?_
  unfold Q.greater runFn startE
  by_cases h : p < q <;> simp [is_less p q hp hq, h]
end B
namespace B
open PySem PySem.Spec PyProof.Rows L2 M

def dot : List Int → List Int → Int
  | p :: ps, a :: as => p * a + dot ps as
  | _, _ => 0
def enM (rows : List (List Int)) : D := .list (rows.map fun r => .list (enI r))
def costs (bk : List Buy) : List (List Int) := bk.map fun b => bk.map fun c => dot b.1 c.2
theorem zip_run : ∀ (ps as : List Int) (env : En), env.length = 4 → (∀ p ∈ ps, p.natAbs < 2 ^ 64) → lcRun (gTp (gCn (gNm 2) (gCn (gNm 3) (gNl)))) bYes (mOp mulT (mVar 2) (mVar 3)) env (zipD (enI ps) (enI as)) = some (enI ((ps.zip as).map fun q => q.1 * q.2))
  | [], _, _, _, _ => rfl
  | _ :: _, [], _, _, _ => rfl
  | p :: ps, a :: as, env, he, hp => by
    have ih := zip_run ps as env he (fun q hq => hp q (List.mem_cons_of_mem _ hq))
    have hm : mulOk p a = true := mulOk_l (hp p List.mem_cons_self)
    have e1 : zipD (enI (p :: ps)) (enI (a :: as)) = .tuple [.int p, .int a] :: zipD (enI ps) (enI as) := rfl
    rw [e1]
    simp only [lcRun]
    simp [-getElem?_pos, he, hm, ih]
    simp [enI]
theorem sum_zip : ∀ ps as : List Int, ((ps.zip as).map fun q => q.1 * q.2).sum = dot ps as
  | [], _ => rfl
  | _ :: _, [] => rfl
  | p :: ps, a :: as => by simp [dot, sum_zip ps as]
theorem cost_at (ps as : List Int) (hp : ∀ p ∈ ps, p.natAbs < 2 ^ 64) (hl : ps.length ≤ 1000) : callT Q.cost_at [.p (.tuple (enI ps)), .p (.tuple (enI as))] = some (.p (.int (dot ps as))) := by
  refine callT_p rfl ?_
  unfold Q.cost_at
  refine run_ret ?_
  have h1 := zip_run ps as [some (.p (.tuple (enI ps))), some (.p (.tuple (enI as))), none, none] rfl hp
  have hz : (enI ((ps.zip as).map fun q => q.1 * q.2)).length ≤ LIM := by
    rw [enI_length, List.length_map, List.length_zip]; unfold LIM; omega
  have hs : ∀ xs : List Int, sumT [.p (.list (enI xs))] = some (.p (.int xs.sum)) := fun xs => by
    unfold enI; simp [sumT, intsOf_map]
  have hi : iZp (mVar 0) (mVar 1) [some (.p (.tuple (enI ps))), some (.p (.tuple (enI as))), none, none] = some (zipD (enI ps) (enI as)) := rfl
  rw [show startE 4 [T.p (.tuple (enI ps)), .p (.tuple (enI as))] = [some (.p (.tuple (enI ps))), some (.p (.tuple (enI as))), none, none] from rfl]
  simp only [ev_mCall, ev_aCons, ev_mLc, hi, Option.bind_some, ev_wipe1, ev_wipe0, List.set_cons_succ, List.set_cons_zero, h1, hz, if_true, ev_aNil, Option.map_some, hs, sum_zip]

structure Priced (bk : List Buy) : Prop where
  few : bk.length ≤ 1000
  pr : ∀ b ∈ bk, b.1.length ≤ 1000 ∧ ∀ p ∈ b.1, p.natAbs < 2 ^ 64
theorem snap_mM (rows : List (List Int)) : (T.ml (rows.map fun r => T.p (.list (enI r)))).snap = some (enM rows) := by
  have := snaps_p (rows.map fun r => PyData.list (enI r))
  rw [List.map_map] at this
  simp only [T.snap]
  rw [show (rows.map fun r => T.p (.list (enI r))) = rows.map (T.p ∘ fun r => PyData.list (enI r)) from rfl, this]
  rfl
def accM (bk : List Buy) (i : Nat) : List T := ((bk.take i).map fun b => bk.map fun c => dot b.1 c.2).map fun r => T.p (.list (enI r))
theorem accM_succ (bk : List Buy) (i : Nat) (hi : i < bk.length) : accM bk (i + 1) = accM bk i ++ [T.p (.list (enI (bk.map fun c => dot bk[i].1 c.2)))] := by
  unfold accM
  rw [List.take_succ, List.getElem?_eq_getElem hi, Option.toList_some, List.map_append, List.map_append]
  rfl
theorem accM_len (bk : List Buy) (i : Nat) (hi : i ≤ bk.length) : (accM bk i).length = i := by
  unfold accM
  simp [hi]
theorem accM_all (bk : List Buy) : accM bk bk.length = (costs bk).map fun r => T.p (.list (enI r)) := by
  unfold accM costs
  rw [List.take_length]
theorem costs_of (bk : List Buy) (h : Priced bk) : callT Q.costs_of [.p (enBk bk)] = some (.p (enM (costs bk))) := by
  have key : Q.costs_of [.p (enBk bk)] = some (.ml ((costs bk).map fun r => T.p (.list (enI r)))) := by
    unfold Q.costs_of
    refine run_of ?_
    rw [show startE 6 [T.p (enBk bk)] = [some (.p (enBk bk)), none, none, none, none, none] from rfl]
    have L0 : 0 ≤ LIM := Nat.zero_le _
    refine oxE [some (.p (enBk bk)), some (.ml []), none, none, none, none] (by simp [L0]) ?_
    obtain ⟨e, he, o2, o3, rfl⟩ := forRun_inv (g := gTp (gCn (gNm 2) (gCn (gNm 3) (gNl)))) (mb := Q.costs_of_L1)
      (fun i e => ∃ o2 o3, e = [some (.p (enBk bk)), some (.ml (accM bk i)), o2, o3, none, none]) (bk.map enB) [some (.p (enBk bk)), some (.ml []), none, none, none, none] 0 ⟨_, _, rfl⟩ (by
        rintro i d e hd ⟨o2, o3, rfl⟩
        have hi : i < bk.length := by
          have := (List.getElem?_eq_some_iff.mp hd).1
          simpa using this
        have hd' : d = enB bk[i] := by
          simp [hi] at hd
          exact hd.symm
        subst hd'
        rw [Nat.zero_add]
        have hp := h.pr _ (List.getElem_mem hi)
        have hf := h.few
        have l1 : lcRun (gTp (gCn (gNm 4) (gCn (gNm 5) (gNl)))) bYes (mCall (callT Q.cost_at) (aCons (mVar 2) (aCons (mVar 5) (aNil)))) [some (.p (enBk bk)), some (.ml (accM bk i)), some (.p (.tuple (enI bk[i].1))), some (.p (.tuple (enI bk[i].2))), none, none] (bk.map enB) = some (enI (bk.map fun c => dot bk[i].1 c.2)) := by
          have := lcRun_map (g := gTp (gCn (gNm 4) (gCn (gNm 5) (gNl)))) (tt := bYes) (me := mCall (callT Q.cost_at) (aCons (mVar 2) (aCons (mVar 5) (aNil)))) (env := [some (.p (enBk bk)), some (.ml (accM bk i)), some (.p (.tuple (enI bk[i].1))), some (.p (.tuple (enI bk[i].2))), none, none]) enB (fun c => .int (dot bk[i].1 c.2)) bk (fun c hc => ⟨_, rfl, rfl, by simp [cost_at bk[i].1 c.2 hp.2 hp.1]⟩)
          rw [this]
          unfold enI
          rw [List.map_map]
          rfl
        refine ⟨[some (.p (enBk bk)), some (.ml (accM bk i)), some (.p (.tuple (enI bk[i].1))), some (.p (.tuple (enI bk[i].2))), none, none], [some (.p (enBk bk)), some (.ml (accM bk (i + 1))), some (.p (.tuple (enI bk[i].1))), some (.p (.tuple (enI bk[i].2))), none, none], rfl, .inl ?_, _, _, rfl⟩
        unfold Q.costs_of_L1
        have hq : bk.length ≤ LIM := by unfold LIM; omega
        have hq2 : (accM bk i).length < LIM := by rw [accM_len bk i (by omega)]; unfold LIM; omega
        rw [accM_succ bk i hi]
        have hany : (T.p (enBk bk)).any? = some (bk.map enB) := rfl
        simp [hany, l1, enI_length, hq, hq2])
    refine oxE _ (by rw [← he]; rfl) ?_
    rw [List.length_map, Nat.zero_add, accM_all]
    exact ⟨_, rfl, rfl⟩
  exact callT_snap rfl key (snap_mM _)

end B
namespace B
open PySem PySem.Spec PyProof.Rows L2 M

abbrev MF := Nat → Nat → Rat
def rowT (n : Nat) (g : Nat → Rat) : T := .ml ((List.range n).map fun j => T.p (enQ (g j)))
def matT (n : Nat) (f : MF) : T := .ml ((List.range n).map fun i => rowT n (f i))
def up2 (f : MF) (a b : Nat) (v : Rat) : MF := fun i j => if i = a ∧ j = b then v else f i j
theorem range_set {α : Type} (n a : Nat) (g : Nat → α) (x : α) : ((List.range n).map g).set a x = (List.range n).map fun i => if i = a then x else g i := by
  apply List.ext_getElem?
  intro i
  by_cases hi : i < n
  · by_cases h : i = a
    · subst h
      rw [List.getElem?_set_self' ]
      simp [hi]
    · rw [List.getElem?_set_ne (fun z => h z.symm)]
      simp [hi, h]
  · have h1 : ((List.range n).map g).length ≤ i := by simp; omega
    rw [List.getElem?_eq_none (by simp; omega), List.getElem?_eq_none (by simp; omega)]
theorem at_range {α : Type} {n i : Nat} {g : Nat → α} (hi : i < n) : atI ((List.range n).map g) (i : Int) = some (g i) := by
  rw [atI_lt (by omega) (by simp; omega)]
  simp
theorem ix_range {α : Type} {n i : Nat} {g : Nat → α} (hi : i < n) : ixN ((List.range n).map g).length (i : Int) = some i := by
  rw [ixN_of (by omega) (by simp; omega)]
  simp
@[simp] theorem strip_matT {n : Nat} {f : MF} : (matT n f).strip = matT n f := rfl
@[simp] theorem strip_rowT {n : Nat} {g : Nat → Rat} : (rowT n g).strip = rowT n g := rfl
@[simp] theorem wrap_matT {n : Nat} {f : MF} {u : T} : (matT n f).wrap u = u := rfl
@[simp] theorem wrap_rowT {n : Nat} {g : Nat → Rat} {u : T} : (rowT n g).wrap u = u := rfl
def fwv (f : MF) (by' i j : Nat) : Rat := if f i by' < f by' j then f by' j else f i by'
def fwc (f : MF) (by' i j : Nat) : Prop := i ≠ j ∧ by' ≠ i ∧ by' ≠ j ∧ fwv f by' i j < f i j
instance (f : MF) (b i j : Nat) : Decidable (fwc f b i j) := by unfold fwc; infer_instance
end B
namespace B
open PySem PySem.Spec PyProof.Rows L2 M

abbrev Par := List (Nat × Option Nat)
def enO : Option Nat → D
  | none => .none
  | some h => .int h
def enP (p : Nat × Option Nat) : Key × D := (.inl (p.1 : Int), enO p.2)
def natI (w : List Nat) : List Int := w.map fun (k : Nat) => (k : Int)
def mN (w : List Nat) : T := mI (natI w)
theorem valD_en (ks : Par) (k : Nat) : valD (ks.map enP) (.inl (k : Int)) = (ks.find? fun p => decide (p.1 = k)).map fun p => enO p.2 := by
  unfold valD
  induction ks with
  | nil => rfl
  | cons p r ih =>
    simp only [List.map_cons, List.find?_cons]
    by_cases h : p.1 = k
    · have : (enP p).1 = (.inl (k : Int) : Key) := by simp [enP, h]
      simp [this, h]; rfl
    · have : ¬ (enP p).1 = (.inl (k : Int) : Key) := by
        simp only [enP]
        intro z
        exact h (by injection z with z; omega)
      simp [this, h]
      simpa using ih
theorem find_some {ks : Par} {k : Nat} : ((ks.find? fun p => decide (p.1 = k)).isSome = true) ↔ k ∈ ks.map (·.1) := by
  simp [List.find?_isSome]
theorem isSome_en (ks : Par) (k : Nat) : (valD (ks.map enP) (.inl (k : Int))).isSome = decide (k ∈ ks.map (·.1)) := by
  rw [valD_en, Option.isSome_map, Bool.eq_iff_iff, find_some]
  simp
theorem putD_en {ks : Par} {k h : Nat} (hk : k ∉ ks.map (·.1)) : putD (ks.map enP) (.inl (k : Int)) (.int h) = (ks ++ [(k, some h)]).map enP := by
  unfold putD
  rw [if_neg]
  · simp [enP, enO]
  · intro z
    obtain ⟨q, hq, e⟩ := List.any_eq_true.mp z
    obtain ⟨p, hp, rfl⟩ := List.mem_map.mp hq
    have : p.1 = k := by
      have e' := of_decide_eq_true e
      simp only [enP] at e'
      injection e' with e'; omega
    exact hk (this ▸ List.mem_map_of_mem hp)
/-- what the search has found -/
inductive Tree (W : Nat → Nat → Prop) (one : Nat) : Par → Prop
  | root : Tree W one [(one, none)]
  | snoc {ks : Par} {h k : Nat} : Tree W one ks → h ∈ ks.map (·.1) → k ∉ ks.map (·.1) → W h k → Tree W one (ks ++ [(k, some h)])
section
variable {W : Nat → Nat → Prop} {one : Nat}
theorem Tree.nodup {ks : Par} (t : Tree W one ks) : (ks.map (·.1)).Nodup := by
  induction t with
  | root => simp
  | snoc t h1 h2 h3 ih =>
    rw [List.map_append]
    refine List.nodup_append.mpr ⟨ih, by simp, fun a ha b hb => ?_⟩
    intro e
    subst e
    simp at hb
    subst hb
    exact h2 ha
theorem Tree.one_mem {ks : Par} (t : Tree W one ks) : one ∈ ks.map (·.1) := by
  induction t with
  | root => simp
  | snoc t h1 h2 h3 ih => rw [List.map_append]; exact List.mem_append_left _ ih
/-- a way: each step is open -/
def Steps (W : Nat → Nat → Prop) : List Nat → Prop
  | [] => True
  | [_] => True
  | a :: b :: r => W a b ∧ Steps W (b :: r)
theorem Steps.snoc : ∀ {p : List Nat} {h k : Nat}, Steps W p → p.getLast? = some h → W h k → Steps W (p ++ [k])
  | [], _, _, _, e, _ => by simp at e
  | [a], _, _, _, e, w => by simp at e; subst e; exact ⟨w, trivial⟩
  | a :: b :: r, h, k, s, e, w => ⟨s.1, Steps.snoc (p := b :: r) s.2 (by simpa using e) w⟩
structure Way (W : Nat → Nat → Prop) (one other : Nat) (p : List Nat) : Prop where
  hd : p.head? = some one
  lst : p.getLast? = some other
  st : Steps W p
  nd : p.Nodup
theorem find_mid {ks more : Par} {k : Nat} {o : Option Nat} (h : k ∉ ks.map (·.1)) : ((ks ++ (k, o) :: more).find? fun p => decide (p.1 = k)) = some (k, o) := by
  induction ks with
  | nil => simp
  | cons p r ih =>
    have h1 : p.1 ≠ k := fun e => h (by simp [e])
    have h2 : k ∉ r.map (·.1) := fun e => h (by simp at e ⊢; exact .inr e)
    simp [h1]
    simpa using ih h2
theorem at_head (k : Nat) (w : List Nat) : atI ((enI (natI (k :: w))).map T.p) 0 = some (.p (.int k)) := by
  rw [atI_lt (by decide) (by simp [natI, enI])]
  rfl
theorem ins_head (k h : Nat) (w : List Nat) (hl : (k :: w).length < LIM) : insN ((enI (natI (k :: w))).map T.p) 0 (.int h) = some ((enI (natI (h :: k :: w))).map T.p) := by
  unfold insN
  rw [if_pos ⟨by decide, by decide, by simpa [natI, enI] using hl⟩]
  rfl
def tailEnv (ways : T) (one other : Nat) (ks : Par) (o4 o5 o6 : Option T) (told : List Nat) : En := [some ways, some (.p (.int one)), some (.p (.int other)), some (.md (ks.map enP)), o4, o5, o6, some (mN told)]
/-- the way back -/
theorem back (ways : T) (other : Nat) (o4 o5 o6 : Option T) (ksF : Par) (hF : (ksF.map (·.1)).Nodup) {ks : Par} (t : Tree W one ks) : ∀ (more : Par), ksF = ks ++ more → ∀ (c : Nat) (tl : List Nat) (fuel : Nat), c ∈ ks.map (·.1) → ks.length ≤ fuel → tl.length + ks.length < 1000 →
    ∃ p, whileRun (bOp M.neT (mOp idxT (mVar 7) (mC (.int 0))) (mVar 1)) Q.way_between_L3 fuel (tailEnv ways one other ksF o4 o5 o6 (c :: tl)) = some (.nx (tailEnv ways one other ksF o4 o5 o6 (p ++ tl))) ∧ Way W one c p ∧ ∀ x ∈ p, x ∈ ks.map (·.1) := by
  have hend : ∀ (tl : List Nat) (fuel : Nat), 1 ≤ fuel → whileRun (bOp M.neT (mOp idxT (mVar 7) (mC (.int 0))) (mVar 1)) Q.way_between_L3 fuel (tailEnv ways one other ksF o4 o5 o6 (one :: tl)) = some (.nx (tailEnv ways one other ksF o4 o5 o6 (one :: tl))) := by
    intro tl fuel hf
    obtain ⟨m, rfl⟩ : ∃ m, fuel = m + 1 := ⟨fuel - 1, by omega⟩
    have := at_head one tl
    unfold tailEnv mN mI
    simp [whileRun, this]
  induction t with
  | root =>
    intro more hm c tl fuel hc hf hlen
    have hc' : c = one := by simpa using hc
    subst hc'
    exact ⟨[c], hend tl fuel (by simpa using hf), ⟨rfl, rfl, trivial, by simp⟩, by simp⟩
  | @snoc ks h k t h1 h2 h3 ih =>
    intro more hm c tl fuel hc hf hlen
    rw [List.length_append, List.length_singleton] at hf hlen
    by_cases hck : c ∈ ks.map (·.1)
    · obtain ⟨p, a1, a2, a3⟩ := ih ((k, some h) :: more) (by rw [hm]; simp) c tl fuel hck (by omega) (by omega)
      exact ⟨p, a1, a2, fun x hx => by rw [List.map_append]; exact List.mem_append_left _ (a3 x hx)⟩
    · have hcE : c = k := by
        rw [List.map_append, List.mem_append] at hc
        rcases hc with z | z
        · exact absurd z hck
        · simpa using z
      subst hcE
      by_cases hone : c = one
      · subst hone
        exact absurd t.one_mem hck
      · obtain ⟨m, rfl⟩ : ∃ m, fuel = m + 1 := ⟨fuel - 1, by omega⟩
        obtain ⟨p, a1, a2, a3⟩ := ih ((c, some h) :: more) (by rw [hm]; simp) h (c :: tl) m h1 (by omega) (by simp; omega)
        have hv : valD (ksF.map enP) (.inl (c : Int)) = some (.int h) := by
          rw [valD_en, hm, List.append_assoc, List.singleton_append, find_mid h2]
          rfl
        have hone' : ¬ (c : Int) = (one : Int) := by omega
        have hb : Q.way_between_L3 (tailEnv ways one other ksF o4 o5 o6 (c :: tl)) = some (.nx (tailEnv ways one other ksF o4 o5 o6 (h :: c :: tl))) := by
          have e1 := at_head c tl
          have e2 := ins_head c h tl (by simp; unfold LIM; omega)
          unfold Q.way_between_L3 tailEnv mN mI
          simp [dGetT, T.dct?, keyOf?, e1, hv, e2]
        refine ⟨p ++ [c], ?_, ?_, ?_⟩
        · have e1 := at_head c tl
          rw [List.append_assoc, List.singleton_append, ← a1]
          have hcond : bOp M.neT (mOp idxT (mVar 7) (mC (.int 0))) (mVar 1) (tailEnv ways one other ksF o4 o5 o6 (c :: tl)) = some true := by
            unfold tailEnv mN mI
            simp [e1, hone']
          rw [whileRun, hcond, Option.bind_some, if_pos rfl, hb]
          rfl
        · refine ⟨?_, by simp, a2.st.snoc a2.lst h3, ?_⟩
          · cases p with
            | nil => have := a2.hd; simp at this
            | cons x r => have := a2.hd; simpa using this
          · refine List.nodup_append.mpr ⟨a2.nd, by simp, fun x hx y hy => ?_⟩
            have : y = c := by simpa using hy
            subst this
            intro e; subst e; exact h2 (a3 _ hx)
        · intro x hx
          rw [List.map_append]
          rcases List.mem_append.mp hx with z | z
          · exact List.mem_append_left _ (a3 x z)
          · exact List.mem_append_right _ (by simpa using z)
end
end B
namespace B
open PySem PySem.Spec PyProof.Rows L2 M

def enW (rows : List (List Bool)) : D := .list (rows.map fun r => .list (enBl r))
def wv (rows : List (List Bool)) (a b : Nat) : Prop := ((rows.getD a []).getD b false) = true
instance (rows : List (List Bool)) (a b : Nat) : Decidable (wv rows a b) := by unfold wv; infer_instance
structure SqW (rows : List (List Bool)) : Prop where
  sq : ∀ r ∈ rows, r.length = rows.length
  few : rows.length ≤ 100
theorem wv_lt {rows : List (List Bool)} (h : SqW rows) {a b : Nat} (w : wv rows a b) : a < rows.length ∧ b < rows.length := by
  unfold wv at w
  by_cases ha : a < rows.length
  · refine ⟨ha, ?_⟩
    rw [List.getD_eq_getElem?_getD, List.getD_eq_getElem?_getD, List.getElem?_eq_getElem ha] at w
    by_cases hb : b < rows[a].length
    · have := h.sq _ (List.getElem_mem ha); omega
    · simp [List.getElem?_eq_none (Nat.le_of_not_lt hb)] at w
  · rw [List.getD_eq_getElem?_getD, List.getD_eq_getElem?_getD, List.getElem?_eq_none (Nat.le_of_not_lt ha)] at w
    simp at w
theorem way_at {rows : List (List Bool)} (h : SqW rows) {a b : Nat} (ha : a < rows.length) (hb : b < rows.length) : ∃ r, atI (rows.map fun r => PyData.list (enBl r)) (a : Int) = some (.list (enBl r)) ∧ atI (enBl r) (b : Int) = some (.bool (decide (wv rows a b))) := by
  refine ⟨rows[a], ?_, ?_⟩
  · rw [atI_lt (by omega) (by simp; omega)]
    simp
  · have hl := h.sq _ (List.getElem_mem ha)
    unfold enBl
    rw [atI_lt (by omega) (by simp; omega)]
    simp only [List.getElem_map, Int.toNat_natCast]
    congr 2
    rw [Bool.eq_iff_iff]
    unfold wv
    simp [List.getD_eq_getElem?_getD, ha, show b < rows[a].length by omega]
inductive Reach (W : Nat → Nat → Prop) (one : Nat) : Nat → Prop
  | refl : Reach W one one
  | step {h k : Nat} : Reach W one h → W h k → Reach W one k

def bEnv (rows : List (List Bool)) (one other : Nat) (ks : Par) (wait : List Nat) (o5 o6 : Option T) : En := [some (.p (enW rows)), some (.p (.int one)), some (.p (.int other)), some (.md (ks.map enP)), some (mN wait), o5, o6, none]
structure BJ (rows : List (List Bool)) (one : Nat) (ks : Par) (wait : List Nat) : Prop where
  tr : Tree (wv rows) one ks
  lt : ∀ k ∈ ks.map (·.1), k < rows.length
  wk : ∀ k ∈ wait, k ∈ ks.map (·.1)
  cl : ∀ k ∈ ks.map (·.1), k ∉ wait → ∀ j, wv rows k j → j ∈ ks.map (·.1)
theorem nodup_le {l : List Nat} {n : Nat} (h : l.Nodup) (hl : ∀ x ∈ l, x < n) : l.length ≤ n := by
  have h1 : (natI l).Nodup := by
    unfold natI
    exact List.pairwise_map.mpr (h.imp (fun {a b} z e => z (by omega)))
  have h2 := nodup_sub_le (l := natI l) (m := natI (List.range n)) h1 (by
    intro x hx
    obtain ⟨k, hk, rfl⟩ := List.mem_map.mp hx
    exact List.mem_map.mpr ⟨k, List.mem_range.mpr (hl k hk), rfl⟩)
  simpa [natI] using h2
theorem BJ.few {rows : List (List Bool)} {one : Nat} {ks : Par} {wait : List Nat} (j : BJ rows one ks wait) : ks.length ≤ rows.length := by
  have := nodup_le j.tr.nodup j.lt
  simpa using this
theorem mN_app (w : List Nat) (k : Nat) : T.ml ((enI (natI w)).map T.p ++ [T.p (.int k)]) = mN (w ++ [k]) := by
  rw [mp_app]
  unfold mN mI natI
  simp
theorem row_turn {rows : List (List Bool)} (hW : SqW rows) (one other here : Nat) (hh : here < rows.length) (ks0 : Par) (wait0 : List Nat) (hk0 : here ∈ ks0.map (·.1)) (t0 : Tree (wv rows) one ks0) (lt0 : ∀ k ∈ ks0.map (·.1), k < rows.length) (wk0 : ∀ k ∈ wait0, k ∈ ks0.map (·.1)) (hwl : wait0.length ≤ 1000) (o6 : Option T) :
    ∃ ks wait o6', forRun (gNm 6) Q.way_between_L1 (rangeD 0 rows.length) (bEnv rows one other ks0 wait0 (some (.p (.int here))) o6) = some (.nx (bEnv rows one other ks wait (some (.p (.int here))) o6')) ∧
      Tree (wv rows) one ks ∧ (∀ k ∈ ks.map (·.1), k < rows.length) ∧ (∀ k ∈ wait, k ∈ ks.map (·.1)) ∧ (∀ k ∈ ks0.map (·.1), k ∈ ks.map (·.1)) ∧ ks.length + wait0.length = ks0.length + wait.length ∧ (∀ k ∈ ks.map (·.1), k ∉ wait → k ∈ ks0.map (·.1)) ∧ (∀ k ∈ wait0, k ∈ wait) ∧ ∀ j, wv rows here j → j ∈ ks.map (·.1) := by
  obtain ⟨e, he, ks, wait, o6', rfl, h1, h2, h3, h4, h5, h6, h7, h8⟩ := forRun_inv (g := gNm 6) (mb := Q.way_between_L1)
    (fun i e => ∃ ks wait o6, e = bEnv rows one other ks wait (some (.p (.int here))) o6 ∧ Tree (wv rows) one ks ∧ (∀ k ∈ ks.map (·.1), k < rows.length) ∧ (∀ k ∈ wait, k ∈ ks.map (·.1)) ∧ (∀ k ∈ ks0.map (·.1), k ∈ ks.map (·.1)) ∧ ks.length + wait0.length = ks0.length + wait.length ∧ (∀ k ∈ ks.map (·.1), k ∉ wait → k ∈ ks0.map (·.1)) ∧ (∀ k ∈ wait0, k ∈ wait) ∧ ∀ j, j < i → wv rows here j → j ∈ ks.map (·.1))
    (rangeD 0 rows.length) (bEnv rows one other ks0 wait0 (some (.p (.int here))) o6) 0
    ⟨ks0, wait0, o6, rfl, t0, lt0, wk0, fun _ h => h, by omega, fun _ h _ => h, fun _ h => h, fun j hj => by omega⟩ (by
      rintro i d e hd ⟨ks, wait, o6, rfl, h1, h2, h3, h4, h5, h6, h7, h8⟩
      have hi : i < rows.length := by
        have := (List.getElem?_eq_some_iff.mp hd).1
        simpa [rangeD] using this
      have hd' : d = .int i := by
        simp [rangeD, hi] at hd
        exact hd.symm
      subst hd'
      rw [Nat.zero_add] at h8 ⊢
      obtain ⟨r, a1, a2⟩ := way_at hW hh hi
      have hin := isSome_en ks i
      have hkl : ks.length ≤ rows.length := by
        have := nodup_le h1.nodup h2
        simpa using this
      have hfew := hW.few
      unfold Q.way_between_L1
      by_cases hw : wv rows here i
      · by_cases hk : i ∈ ks.map (·.1)
        · refine ⟨_, bEnv rows one other ks wait (some (.p (.int here))) (some (.p (.int i))), rfl, .inl ?_, ks, wait, _, rfl, h1, h2, h3, h4, h5, h6, h7, fun j hj hjw => ?_⟩
          · obtain ⟨dv, hin'⟩ : ∃ dv, valD (ks.map enP) (.inl (i : Int)) = some dv := Option.isSome_iff_exists.mp (by rw [hin]; simp only [hk, decide_true])
            unfold bEnv enW
            simp [a1, a2, hw, dNotInT, T.dct?, keyOf?, hin']
          · by_cases z : j = i
            · subst z; exact hk
            · exact h8 j (by omega) hjw
        · refine ⟨_, bEnv rows one other (ks ++ [(i, some here)]) (wait ++ [i]) (some (.p (.int here))) (some (.p (.int i))), rfl, .inl ?_, _, _, _, rfl, ?_, ?_, ?_, ?_, ?_, ?_, ?_, ?_⟩
          · have hin' : valD (ks.map enP) (.inl (i : Int)) = none := by
              have : (valD (ks.map enP) (.inl (i : Int))).isSome = false := by rw [hin]; simp only [hk, decide_false]
              simpa using this
            have hput := putD_en (h := here) hk
            have hz : ks.length < LIM := by unfold LIM; omega
            have hz2 : wait.length < LIM := by unfold LIM; omega
            have hz3 : (natI wait).length < LIM := by unfold natI; simpa using hz2
            have happ := mN_app wait i
            unfold bEnv enW
            simp only [ev_sIf, ev_bAnd, ev_bVal, ev_bOp]
            rw [← happ]
            simp only [mN, mI]
            simp [-List.map_append, a1, a2, hw, dNotInT, T.dct?, keyOf?, hin', M.sDPut, hz, hput, enI_length, hz3]
          · exact h1.snoc (h4 _ hk0) hk hw
          · intro k hk'
            rw [List.map_append, List.mem_append] at hk'
            rcases hk' with z | z
            · exact h2 k z
            · have : k = i := by simpa using z
              omega
          · intro k hk'
            rw [List.map_append]
            rcases List.mem_append.mp hk' with z | z
            · exact List.mem_append_left _ (h3 k z)
            · exact List.mem_append_right _ (by simpa using z)
          · intro k hk'
            rw [List.map_append]
            exact List.mem_append_left _ (h4 k hk')
          · simp only [List.length_append, List.length_singleton]; omega
          · intro k hk' hn
            rw [List.map_append, List.mem_append] at hk'
            rcases hk' with z | z
            · exact h6 k z (fun y => hn (List.mem_append_left _ y))
            · exact absurd (List.mem_append_right wait (by simpa using z)) hn
          · intro k hk'
            exact List.mem_append_left _ (h7 k hk')
          · intro j hj hjw
            rw [List.map_append]
            by_cases z : j = i
            · subst z; exact List.mem_append_right _ (by simp)
            · exact List.mem_append_left _ (h8 j (by omega) hjw)
      · refine ⟨_, bEnv rows one other ks wait (some (.p (.int here))) (some (.p (.int i))), rfl, .inl ?_, ks, wait, _, rfl, h1, h2, h3, h4, h5, h6, h7, fun j hj hjw => ?_⟩
        · unfold bEnv enW
          simp [a1, a2, hw]
        · by_cases z : j = i
          · subst z; exact absurd hjw hw
          · exact h8 j (by omega) hjw)
  refine ⟨ks, wait, o6', he, h1, h2, h3, h4, h5, h6, h7, fun j hj => h8 j ?_ hj⟩
  have := (wv_lt hW hj).2
  simpa [rangeD] using this
end B
namespace B
open PySem PySem.Spec PyProof.Rows L2 M

theorem pop_head (env : En) (h : Nat) (w : List Nat) (e4 : env[4]? = some (some (mN (h :: w)))) : sSetPopAt 5 (pVar 4) (mC (.int 0)) env = some (.nx ((env.set 4 (some (mN w))).set 5 (some (.p (.int h))))) := by
  have h1 : ixN ((enI (natI (h :: w))).map T.p).length 0 = some 0 := ixN_of (by decide) (by simp [natI, enI])
  unfold sSetPopAt popN
  simp only [mN, mI] at *
  simp [-List.length_map, e4, h1, natI, enI]
  simp [natI, enI] at h1
  simp [h1]
theorem ne_nil_mI (xs : List Int) : M.neT (mI xs) (.p (.list [])) = some (.p (.bool (!xs.isEmpty))) := by
  have := ne_nil_ints xs
  unfold M.neT at *
  rw [snap_mI]
  simpa using this
theorem search {rows : List (List Bool)} (hW : SqW rows) (one other : Nat) : ∀ (fuel : Nat) (ks : Par) (wait : List Nat) (o5 o6 : Option T), BJ rows one ks wait → rows.length - ks.length + wait.length ≤ 1000 → rows.length - ks.length + wait.length < fuel →
    ∃ ks' wait' o5' o6', whileRun (bAnd (bOp M.neT (mVar 4) (mLst (aNil))) (bOp dNotInT (mVar 2) (mVar 3))) Q.way_between_L2 fuel (bEnv rows one other ks wait o5 o6) = some (.nx (bEnv rows one other ks' wait' o5' o6')) ∧ BJ rows one ks' wait' ∧ (wait' = [] ∨ other ∈ ks'.map (·.1))
  | 0, _, _, _, _, _, _, hf => by omega
  | fuel + 1, ks, wait, o5, o6, hJ, hwl, hf => by
    have hin := isSome_en ks other
    have L0 : 0 ≤ LIM := Nat.zero_le _
    have hne := ne_nil_mI (natI wait)
    by_cases hk : other ∈ ks.map (·.1)
    · refine ⟨ks, wait, o5, o6, ?_, hJ, .inr hk⟩
      obtain ⟨dv, hin'⟩ : ∃ dv, valD (ks.map enP) (.inl (other : Int)) = some dv := Option.isSome_iff_exists.mp (by rw [hin]; simp only [hk, decide_true])
      have hc : bAnd (bOp M.neT (mVar 4) (mLst (aNil))) (bOp dNotInT (mVar 2) (mVar 3)) (bEnv rows one other ks wait o5 o6) = some false := by
        unfold bEnv
        cases hw : (natI wait).isEmpty <;> rw [hw] at hne <;> simp [mN, hne, L0, dNotInT, T.dct?, keyOf?, hin']
      rw [whileRun, hc]
      rfl
    · have hin' : valD (ks.map enP) (.inl (other : Int)) = none := by
        have : (valD (ks.map enP) (.inl (other : Int))).isSome = false := by rw [hin]; simp only [hk, decide_false]
        simpa using this
      cases wait with
      | nil =>
        refine ⟨ks, [], o5, o6, ?_, hJ, .inl rfl⟩
        have hc : bAnd (bOp M.neT (mVar 4) (mLst (aNil))) (bOp dNotInT (mVar 2) (mVar 3)) (bEnv rows one other ks [] o5 o6) = some false := by
          unfold bEnv
          simp [mN, hne, L0, natI]
          have : M.neT (mI []) (.p (.list [])) = some (.p (.bool false)) := hne
          simp [this]
        rw [whileRun, hc]
        rfl
      | cons h w =>
        have hc : bAnd (bOp M.neT (mVar 4) (mLst (aNil))) (bOp dNotInT (mVar 2) (mVar 3)) (bEnv rows one other ks (h :: w) o5 o6) = some true := by
          have hne' : M.neT (mI (natI (h :: w))) (.p (.list [])) = some (.p (.bool true)) := hne
          unfold bEnv
          simp [mN, hne', L0, dNotInT, T.dct?, keyOf?, hin']
        have hhk : h ∈ ks.map (·.1) := hJ.wk h List.mem_cons_self
        have hhl := hJ.lt h hhk
        obtain ⟨ks', wait', o6', he, t1, t2, t3, t4, t5, t6, t7, t8⟩ := row_turn hW one other h hhl ks w hhk hJ.tr hJ.lt (fun k hk => hJ.wk k (List.mem_cons_of_mem _ hk)) (by rw [List.length_cons] at hwl; omega) o6
        have hJ' : BJ rows one ks' wait' := ⟨t1, t2, t3, fun k hk hn j hj => by
          by_cases z : k = h
          · subst z; exact t8 j hj
          · have h0 := t6 k hk hn
            have hnw : k ∉ h :: w := by
              intro y
              rcases List.mem_cons.mp y with y | y
              · exact z y
              · exact hn (t7 k y)
            exact t4 j (hJ.cl k h0 hnw j hj)⟩
        have hb : Q.way_between_L2 (bEnv rows one other ks (h :: w) o5 o6) = some (.nx (bEnv rows one other ks' wait' (some (.p (.int h))) o6')) := by
          unfold Q.way_between_L2
          rw [stepS (pop_head _ h w (by unfold bEnv; rfl))]
          have : ((bEnv rows one other ks (h :: w) o5 o6).set 4 (some (mN w))).set 5 (some (.p (.int h))) = bEnv rows one other ks w (some (.p (.int h))) o6 := rfl
          rw [this, ← he]
          have hsm : smallI (rows.length : Int) := by have := hW.few; unfold smallI; omega
          unfold bEnv enW
          simp [hsm]
        have hfew := hJ.few
        have hfew' := hJ'.few
        have hwf := hW.few
        obtain ⟨ks2, wait2, p5, p6, h1, h2, h3⟩ := search hW one other fuel ks' wait' (some (.p (.int h))) o6' hJ' (by rw [List.length_cons] at hwl; omega) (by rw [List.length_cons] at hf; omega)
        refine ⟨ks2, wait2, p5, p6, ?_, h2, h3⟩
        rw [whileRun, hc, Option.bind_some, if_pos rfl, hb]
        exact h1
def enR : Option (List Nat) → D
  | none => .none
  | some p => .list (enI (natI p))
theorem way_between {rows : List (List Bool)} (hW : SqW rows) {one other : Nat} (h1 : one < rows.length) (h2 : other < rows.length) :
    ∃ r : Option (List Nat), callT Q.way_between [.p (enW rows), .p (.int one), .p (.int other)] = some (.p (enR r)) ∧ (∀ p, r = some p → Way (wv rows) one other p ∧ ∀ x ∈ p, x < rows.length) ∧ (r = none → ¬ Reach (wv rows) one other) := by
  have L1 : 1 ≤ LIM := by decide
  have J0 : BJ rows one [(one, none)] [one] := ⟨.root, by simpa using h1, by simp, fun k hk hn => by simp at hk hn; exact absurd hk hn⟩
  have hwf := hW.few
  obtain ⟨ks, wait, o5, o6, he, hJ, hend⟩ := search hW one other FUEL [(one, none)] [one] none none J0 (by simp; omega) (by unfold FUEL; simp; omega)
  have hin := isSome_en ks other
  have hkl := hJ.few
  have s1 : ∀ rest : SM, sCons (sSetF 3 (mDOne (mVar 1) (mC .none))) (sCons (sSetF 4 (mLstF (aCons (mPure (mVar 1)) (aNil)))) (sCons (sWhile FUEL (bAnd (bOp M.neT (mVar 4) (mLst (aNil))) (bOp dNotInT (mVar 2) (mVar 3))) Q.way_between_L2) rest)) [some (.p (enW rows)), some (.p (.int one)), some (.p (.int other)), none, none, none, none, none] = rest (bEnv rows one other ks wait o5 o6) := by
    intro rest
    rw [stepS (e := [some (.p (enW rows)), some (.p (.int one)), some (.p (.int other)), some (.md ([(one, none)].map enP)), none, none, none, none]) (by simp [mDOne, keyOf?, enP, enO])]
    rw [stepS (e := bEnv rows one other [(one, none)] [one] none none) (by simp [L1, bEnv, mN, mI, natI, enI])]
    rw [stepS (by rw [ev_sWhile]; exact he)]
  by_cases hk : other ∈ ks.map (·.1)
  · obtain ⟨dv, hin'⟩ : ∃ dv, valD (ks.map enP) (.inl (other : Int)) = some dv := Option.isSome_iff_exists.mp (by rw [hin]; simp only [hk, decide_true])
    obtain ⟨p, b1, b2, b3⟩ := back (.p (enW rows)) other (some (mN wait)) o5 o6 ks hJ.tr.nodup hJ.tr [] (by simp) other [] FUEL hk (by unfold FUEL; omega) (by simp; omega)
    refine ⟨some p, ?_, fun q hq => ?_, fun z => by cases z⟩
    · have key : Q.way_between [.p (enW rows), .p (.int one), .p (.int other)] = some (mN p) := by
        unfold Q.way_between
        refine run_of ?_
        rw [show startE 8 [.p (enW rows), .p (.int one), .p (.int other)] = [some (.p (enW rows)), some (.p (.int one)), some (.p (.int other)), none, none, none, none, none] from rfl, s1]
        refine oxE (bEnv rows one other ks wait o5 o6) (by unfold bEnv; simp [dNotInT, T.dct?, keyOf?, hin']) ?_
        refine oxE (tailEnv (.p (enW rows)) one other ks (some (mN wait)) o5 o6 [other]) (by unfold bEnv tailEnv; simp [L1, mN, mI, natI, enI]) ?_
        refine oxE (tailEnv (.p (enW rows)) one other ks (some (mN wait)) o5 o6 p) (by rw [ev_sWhile, b1]; simp) ?_
        exact ⟨_, rfl, rfl⟩
      exact callT_snap rfl key (snap_mI _)
    · cases hq
      exact ⟨b2, fun x hx => hJ.lt x (b3 x hx)⟩
  · have hin' : valD (ks.map enP) (.inl (other : Int)) = none := by
      have : (valD (ks.map enP) (.inl (other : Int))).isSome = false := by rw [hin]; simp only [hk, decide_false]
      simpa using this
    refine ⟨none, ?_, fun q hq => (by cases hq), fun _ hr => ?_⟩
    · refine callT_p rfl ?_
      unfold Q.way_between
      refine run_of ?_
      rw [show startE 8 [.p (enW rows), .p (.int one), .p (.int other)] = [some (.p (enW rows)), some (.p (.int one)), some (.p (.int other)), none, none, none, none, none] from rfl, s1]
      refine ⟨.rt (.p .none), ?_, rfl⟩
      unfold bEnv
      simp [dNotInT, T.dct?, keyOf?, hin']
    · have hw : wait = [] := hend.resolve_right hk
      subst hw
      have : ∀ k, Reach (wv rows) one k → k ∈ ks.map (·.1) := by
        intro k hr
        induction hr with
        | refl => exact hJ.tr.one_mem
        | step _ w ih => exact hJ.cl _ ih (by simp) _ w
      exact hk (this other hr)
end B
namespace B
open PySem PySem.Spec PyProof.Rows L2 M

theorem rng_at {n i : Nat} {d : D} (h : (rangeD 0 n)[i]? = some d) : i < n ∧ d = .int i := by
  have hi : i < n := by
    have := (List.getElem?_eq_some_iff.mp h).1
    simpa [rangeD] using this
  refine ⟨hi, ?_⟩
  simp [rangeD, hi] at h
  exact h.symm
theorem rng_len (n : Nat) : (rangeD 0 (n : Int)).length = n := by simp [rangeD]
theorem reach_trans {W : Nat → Nat → Prop} {a b c : Nat} (h1 : Reach W a b) (h2 : Reach W b c) : Reach W a c := by
  induction h2 with
  | refl => exact h1
  | step _ w ih => exact .step ih w
/-- a step of at most c between two of n -/
def Ed (n : Nat) (S : MF) (c : Rat) (i j : Nat) : Prop := i < n ∧ j < n ∧ i ≠ j ∧ S i j ≤ c
end B
namespace B
open PySem PySem.Spec PyProof.Rows L2 M

def cM (bk : List Buy) (i j : Nat) : Int := dot (bk.getD i ([], [])).1 (bk.getD j ([], [])).2
def cRow (bk : List Buy) (i : Nat) : List Int := (List.range bk.length).map fun j => cM bk i j
theorem getD_lt {bk : List Buy} {i : Nat} (h : i < bk.length) : bk.getD i ([], []) = bk[i] := by simp [List.getD, h]
theorem map_range {α : Type} (bk : List Buy) (g : Buy → α) : bk.map g = (List.range bk.length).map fun i => g (bk.getD i ([], [])) := by
  apply List.ext_getElem
  · simp
  · intro i h1 h2
    simp at h1
    simp [h1]
theorem costs_range (bk : List Buy) : costs bk = (List.range bk.length).map (cRow bk) := by
  unfold costs cRow cM
  rw [map_range bk fun b => bk.map fun c => dot b.1 c.2]
  apply List.map_congr_left
  intro i _
  rw [map_range bk fun c => dot (bk.getD i ([], [])).1 c.2]
def enC (bk : List Buy) : D := .list ((List.range bk.length).map fun i => .list (enI (cRow bk i)))
theorem enM_costs (bk : List Buy) : enM (costs bk) = enC bk := by
  unfold enM enC
  rw [costs_range, List.map_map]
  rfl
structure CostOk (bk : List Buy) : Prop where
  few : bk.length ≤ 100
  pr : Priced bk
  pos : ∀ i, i < bk.length → 0 < cM bk i i
  nn : ∀ i j, i < bk.length → j < bk.length → 0 ≤ cM bk i j
  sz : ∀ i j, i < bk.length → j < bk.length → Sz 900 (cM bk i j)
theorem szq_divInt {k : Nat} {a b : Int} (hb : b ≠ 0) (ha : Sz k a) (hb' : Sz k b) : SzQ k (Rat.divInt a b) := by
  unfold SzQ Sz at *
  have hg : 0 < Int.gcd b a := Int.gcd_pos_of_ne_zero_left a hb
  constructor
  · rw [Rat.num_divInt]
    refine Nat.lt_of_le_of_lt ?_ ha
    refine Nat.le_trans (Int.natAbs_ediv_le_natAbs ..) ?_
    rw [Int.natAbs_mul]
    have : b.sign.natAbs = 1 := Int.natAbs_sign_of_ne_zero hb
    rw [this]; omega
  · rw [Rat.den_divInt, if_neg hb, Int.natAbs_natCast]
    exact Nat.lt_of_le_of_lt (Nat.div_le_self _ _) hb'
def Cyc (n : Nat) (S : MF) (c : Rat) : Prop := ∃ i j, Ed n S c j i ∧ Reach (Ed n S c) i j
def hr (S T : MF) (i j : Nat) : Rat := if T i j < S j i then S j i else T i j
end B
namespace B
open PySem PySem.Spec PyProof.Rows L2 M

structure LeakOk (n : Nat) (S : MF) (share : Rat) (p : List Nat) : Prop where
  cyc : ∀ c, share ≤ c ↔ Cyc n S c
  nd : p.Nodup
  len : 2 ≤ p.length
  lt : ∀ x ∈ p, x < n
  st : Steps (Ed n S share) p
  ends : ∃ a b, p.head? = some a ∧ p.getLast? = some b ∧ Ed n S share b a
  sz : SzQ 100000 share
theorem steps_imp {W W' : Nat → Nat → Prop} (h : ∀ a b, W a b → W' a b) : ∀ {p : List Nat}, Steps W p → Steps W' p
  | [], _ => trivial
  | [_], _ => trivial
  | a :: b :: r, s => ⟨h a b s.1, steps_imp h (p := b :: r) s.2⟩
theorem reach_imp {W W' : Nat → Nat → Prop} (h : ∀ a b, W a b → W' a b) {a b : Nat} (r : Reach W a b) : Reach W' a b := by
  induction r with
  | refl => exact .refl
  | step _ w ih => exact .step ih (h _ _ w)
end B
namespace C
open PySem PySem.Spec PyProof.Rows L2 M N B

section
variable {a b c d e g : D} {p q r : Option D} {f f2 : T → T → Option T} {i j : Int} {ds es : List D} {x y : Bool}
@[simp] theorem c_xop : xop f (some a) (some b) = op2 f a b := (rfl)
@[simp] theorem c_xf1 {f : List T → Option T} : xf1 f (some a) = (f [.p a]).bind T.pure? := (rfl)
@[simp] theorem c_xf2 {f : List T → Option T} : xf2 f (some a) (some b) = (f [.p a, .p b]).bind T.pure? := (rfl)
@[simp] theorem c_ap1 {α R : Type} {f : α → Option R} {a : α} : ap1 f (some a) = f a := (rfl)
@[simp] theorem c_ap2 {α β R : Type} {f : α → β → Option R} {a : α} {b : β} : ap2 f (some a) (some b) = f a b := (rfl)
@[simp] theorem c_ap3 {α β γ R : Type} {f : α → β → γ → Option R} {a : α} {b : β} {c : γ} : ap3 f (some a) (some b) (some c) = f a b c := (rfl)
@[simp] theorem c_ap4 {α β γ δ R : Type} {f : α → β → γ → δ → Option R} {a : α} {b : β} {c : γ} {d : δ} : ap4 f (some a) (some b) (some c) (some d) = f a b c d := (rfl)
@[simp] theorem c_ap5 {α β γ δ ε R : Type} {f : α → β → γ → δ → ε → Option R} {a : α} {b : β} {c : γ} {d : δ} {e : ε} : ap5 f (some a) (some b) (some c) (some d) (some e) = f a b c d e := (rfl)
@[simp] theorem c_ap6 {α β γ δ ε ζ R : Type} {f : α → β → γ → δ → ε → ζ → Option R} {a : α} {b : β} {c : γ} {d : δ} {e : ε} {g : ζ} : ap6 f (some a) (some b) (some c) (some d) (some e) (some g) = f a b c d e g := (rfl)
@[simp] theorem c_xseq0 : xseq [] = some [] := (rfl)
@[simp] theorem c_xseq1 {l : List (Option D)} : xseq (some a :: l) = (xseq l).map fun as => a :: as := (rfl)
@[simp] theorem c_xtup {l : List (Option D)} : xtup l = (xseq l).map PyData.tuple := (rfl)
@[simp] theorem c_xlst {l : List (Option D)} : xlst l = (xseq l).map PyData.list := (rfl)
@[simp] theorem c_boolD : boolD? (.bool x) = some x := (rfl)
@[simp] theorem c_intD : intD? (.int i) = some i := (rfl)
@[simp] theorem c_seqD1 : seqD? (.list ds) = some ds := (rfl)
@[simp] theorem c_seqD2 : seqD? (.tuple ds) = some ds := (rfl)
@[simp] theorem c_xbool : xbool (some (.bool x)) = some x := (rfl)
@[simp] theorem c_xif {R : Type} {p q : Option R} : xif (some x) p q = if x then p else q := (rfl)
@[simp] theorem c_xif_t {R : Type} {p q : Option R} : xif (some true) p q = p := (rfl)
@[simp] theorem c_xif_f {R : Type} {p q : Option R} : xif (some false) p q = q := (rfl)
@[simp] theorem c_xand {p q : Option Bool} : xand p q = xif p q (some false) := (rfl)
@[simp] theorem c_xor {p q : Option Bool} : xor' p q = xif p (some true) q := (rfl)
@[simp] theorem c_xnot : xnot (some x) = some (!x) := (rfl)
@[simp] theorem c_xmand : xmand p q = xif (xbool p) q (some (.bool false)) := (rfl)
@[simp] theorem c_xmor : xmor p q = xif (xbool p) (some (.bool true)) q := (rfl)
@[simp] theorem c_xmnot : xmnot (some (.bool x)) = some (.bool (!x)) := (rfl)
@[simp] theorem c_xchain : xchain f f2 (some a) (some b) r = xif (xbool (op2 f a b)) (r.bind fun u => op2 f2 b u) (some (.bool false)) := (rfl)
@[simp] theorem c_xneg : xneg (some (.int i)) = some (.int (-i)) := (rfl)
@[simp] theorem c_xint : xint (some (.int i)) = some (some i) := (rfl)
@[simp] theorem c_xslice {lo hi : Option Int} : xslice (some d) (some lo) (some hi) = (sliceT (.p d) lo hi).bind T.pure? := (rfl)
@[simp] theorem c_xrev1 : xrev (some (.list ds)) = some (.list ds.reverse) := (rfl)
@[simp] theorem c_xrev2 : xrev (some (.tuple ds)) = some (.tuple ds.reverse) := (rfl)
@[simp] theorem c_xlistR : xlistR (some (.int j)) = if j ≤ 1000000 ∧ -1000000 ≤ j then some (.list (rangeD 0 j)) else none := (rfl)
@[simp] theorem c_xisi {n : String} : xisi n (some d) = some (.bool (isi (tyN d) n)) := (rfl)
@[simp] theorem c_un2 {R : Type} {k : D → D → Option R} : un2 (.tuple [a, b]) k = k a b := (rfl)
@[simp] theorem c_un3 {R : Type} {k : D → D → D → Option R} : un3 (.tuple [a, b, c]) k = k a b c := (rfl)
@[simp] theorem c_un4 {R : Type} {k : D → D → D → D → Option R} : un4 (.tuple [a, b, c, d]) k = k a b c d := (rfl)
@[simp] theorem c_iseq1 : iseq (some (.list ds)) = some ds := (rfl)
@[simp] theorem c_iseq2 : iseq (some (.tuple ds)) = some ds := (rfl)
@[simp] theorem c_irng1 : irng1 (some (.int j)) = if smallI j then some (rangeD 0 j) else none := (rfl)
@[simp] theorem c_irng2 : irng2 (some (.int i)) (some (.int j)) = if smallI i ∧ smallI j then some (rangeD i j) else none := (rfl)
@[simp] theorem c_izip1 : izip (some (.list ds)) (some (.list es)) = some (zipD ds es) := (rfl)
@[simp] theorem c_izip2 : izip (some (.tuple ds)) (some (.tuple es)) = some (zipD ds es) := (rfl)
@[simp] theorem c_ienum : ienum (some (.list ds)) = some (enumD 0 ds) := (rfl)
@[simp] theorem c_asL : asL (some (.list ds)) = some ds := (rfl)
@[simp] theorem c_aft1 {S R ρ : Type} {s : S} {kr : ρ → R} {k : S → Option R} : aft (some (.nx s)) kr k = k s := (rfl)
@[simp] theorem c_aft2 {S R ρ : Type} {d : ρ} {kr : ρ → R} {k : S → Option R} : aft (some (.rt d)) kr k = some (kr d) := (rfl)
@[simp] theorem c_flatO : flatO (some d) = if flatD d then some d else none := (rfl)
@[simp] theorem c_add : op2 addT (.int i) (.int j) = some (.int (i + j)) := (rfl)
@[simp] theorem c_sub : op2 subT (.int i) (.int j) = some (.int (i - j)) := (rfl)
@[simp] theorem c_mul : op2 mulT (.int i) (.int j) = if mulOk i j then some (.int (i * j)) else none := by
  simp only [op2, ev_mul]; split <;> rfl
@[simp] theorem c_mod : op2 modT (.int i) (.int j) = if j = 0 then none else some (.int (i.fmod j)) := by
  simp only [op2, ev_mod]; split <;> rfl
@[simp] theorem c_fdiv : op2 fdivT (.int i) (.int j) = if divOk j then some (.int (i.fdiv j)) else none := by
  simp only [op2, ev_fdiv]; split <;> rfl
@[simp] theorem c_pow : op2 powT (.int i) (.int j) = if 0 ≤ j ∧ j ≤ 1000000 ∧ i.natAbs < 2 ^ 64 then some (.int (i ^ j.toNat)) else none := by
  simp only [op2, ev_pow]; split <;> rfl
@[simp] theorem c_lt : op2 ltT (.int i) (.int j) = some (.bool (decide (i < j))) := (rfl)
@[simp] theorem c_le : op2 leT (.int i) (.int j) = some (.bool (decide (i ≤ j))) := (rfl)
@[simp] theorem c_gt : op2 gtT (.int i) (.int j) = some (.bool (decide (j < i))) := (rfl)
@[simp] theorem c_ge : op2 geT (.int i) (.int j) = some (.bool (decide (j ≤ i))) := (rfl)
@[simp] theorem c_eqi : op2 M.eqT (.int i) (.int j) = some (.bool (decide (i = j))) := by simp [op2]
@[simp] theorem c_nei : op2 M.neT (.int i) (.int j) = some (.bool (!decide (i = j))) := by simp [op2]
@[simp] theorem c_eqb : op2 M.eqT (.bool x) (.bool y) = some (.bool (x == y)) := by simp [op2]
@[simp] theorem c_neb : op2 M.neT (.bool x) (.bool y) = some (.bool (!(x == y))) := by simp [op2]
@[simp] theorem c_ixl : op2 idxT (.list ds) (.int i) = atI ds i := by
  simp only [op2, ev_ixl]; cases atI ds i <;> rfl
@[simp] theorem c_ixt : op2 idxT (.tuple ds) (.int i) = atI ds i := by
  simp only [op2, ev_ixt]; cases atI ds i <;> rfl
@[simp] theorem c_addl : op2 addT (.list ds) (.list es) = if ds.length + es.length ≤ LIM then some (.list (ds ++ es)) else none := by
  simp only [op2, ev_addl]; split <;> rfl
@[simp] theorem c_addt : op2 addT (.tuple ds) (.tuple es) = if ds.length + es.length ≤ LIM then some (.tuple (ds ++ es)) else none := by
  simp only [op2, ev_addt]; split <;> rfl
@[simp] theorem c_isn0 : op2 isnT .none .none = some (.bool true) := (rfl)
@[simp] theorem c_isnt : op2 isnT (.tuple ds) .none = some (.bool false) := (rfl)
@[simp] theorem c_isnl : op2 isnT (.list ds) .none = some (.bool false) := (rfl)
@[simp] theorem c_isni : op2 isnT (.int i) .none = some (.bool false) := (rfl)
@[simp] theorem c_notn0 : op2 notnT .none .none = some (.bool false) := (rfl)
@[simp] theorem c_notnt : op2 notnT (.tuple ds) .none = some (.bool true) := (rfl)
@[simp] theorem c_notnl : op2 notnT (.list ds) .none = some (.bool true) := (rfl)
@[simp] theorem c_notni : op2 notnT (.int i) .none = some (.bool true) := (rfl)
end
theorem mapP_of {α : Type} {h : D → Option D} (en : α → D) (f : α → D) : ∀ (xs : List α), (∀ x ∈ xs, h (en x) = some (f x)) → mapP h (xs.map en) = some (xs.map f)
  | [], _ => rfl
  | x :: r, hx => by
    simp only [List.map_cons, mapP, hx x List.mem_cons_self, Option.bind_some, mapP_of en f r (fun y hy => hx y (List.mem_cons_of_mem _ hy)), Option.map_some]
theorem xmap_of {α : Type} {h : D → Option D} (en : α → D) (f : α → D) (xs : List α) (hl : xs.length ≤ LIM) (hx : ∀ x ∈ xs, h (en x) = some (f x)) : xmap h (some (xs.map en)) = some (.list (xs.map f)) := by
  simp only [xmap, lim, Option.bind_some, mapP_of en f xs hx, List.length_map, hl, if_true, Option.map_some]
theorem lcP_of {α : Type} {h : D → Option (Option D)} (en : α → D) (p : α → Bool) (f : α → D) : ∀ (xs : List α), (∀ x ∈ xs, h (en x) = some (if p x then some (f x) else none)) → lcP h (xs.map en) = some ((xs.filter p).map f)
  | [], _ => rfl
  | x :: r, hx => by
    simp only [List.map_cons, lcP, hx x List.mem_cons_self, Option.bind_some, lcP_of en p f r (fun y hy => hx y (List.mem_cons_of_mem _ hy)), Option.map_some, List.filter_cons]
    cases p x <;> rfl
theorem xlc_of {α : Type} {h : D → Option (Option D)} (en : α → D) (p : α → Bool) (f : α → D) (xs : List α) (hl : xs.length ≤ LIM) (hx : ∀ x ∈ xs, h (en x) = some (if p x then some (f x) else none)) : xlc h (some (xs.map en)) = some (.list ((xs.filter p).map f)) := by
  have : (xs.filter p).length ≤ LIM := Nat.le_trans (List.length_filter_le _ _) hl
  simp only [xlc, lim, Option.bind_some, lcP_of en p f xs hx, List.length_map, this, if_true, Option.map_some]
theorem rangeD_map (n : Nat) : rangeD 0 (n : Int) = (List.range n).map fun (k : Nat) => PyData.int (k : Int) := by simp [rangeD]
theorem xmap_range {h : D → Option D} (n : Nat) (f : Nat → D) (hl : n ≤ LIM) (hx : ∀ i, i < n → h (.int (i : Int)) = some (f i)) : xmap h (some (rangeD 0 (n : Int))) = some (.list ((List.range n).map f)) := by
  rw [rangeD_map]
  exact xmap_of _ f (List.range n) (by simpa using hl) fun i hi => hx i (List.mem_range.mp hi)
theorem fold_inv {S : Type} {step : S → D → Option S} (I : Nat → S → Prop) : ∀ (ds : List D) (s : S) (k : Nat), I k s → (∀ i d s, ds[i]? = some d → I (k + i) s → ∃ s', step s d = some s' ∧ I (k + i + 1) s') → ∃ s', fold step ds s = some s' ∧ I (k + ds.length) s'
  | [], s, k, h, _ => ⟨s, rfl, h⟩
  | d :: r, s, k, h, hs => by
    obtain ⟨s1, h1, h2⟩ := hs 0 d s rfl h
    obtain ⟨s', h3, h4⟩ := fold_inv I r s1 (k + 1) h2 (fun i d' s' hd hp => by
      have := hs (i + 1) d' s' (by simpa using hd) (by rw [show k + (i + 1) = k + 1 + i by omega]; exact hp)
      rw [show k + (i + 1) + 1 = k + 1 + i + 1 by omega] at this
      exact this)
    exact ⟨s', by simp only [fold, h1, Option.bind_some, h3], by rw [List.length_cons, show k + (r.length + 1) = k + 1 + r.length by omega]; exact h4⟩
theorem fold_range {S : Type} {step : S → D → Option S} (I : Nat → S → Prop) (n : Nat) (s : S) (h0 : I 0 s) (hs : ∀ i s, i < n → I i s → ∃ s', step s (.int (i : Int)) = some s' ∧ I (i + 1) s') : ∃ s', fold step (rangeD 0 (n : Int)) s = some s' ∧ I n s' := by
  have := fold_inv (step := step) I (rangeD 0 (n : Int)) s 0 h0 (fun i d s hd hi => by
    obtain ⟨hlt, rfl⟩ := rng_at hd
    rw [Nat.zero_add] at hi ⊢
    exact hs i s hlt hi)
  rwa [rng_len, Nat.zero_add] at this
theorem fold_map {α S : Type} {step : S → D → Option S} (en : α → D) (I : Nat → S → Prop) (xs : List α) (s : S) (h0 : I 0 s) (hs : ∀ i (h : i < xs.length) s, I i s → ∃ s', step s (en xs[i]) = some s' ∧ I (i + 1) s') : ∃ s', fold step (xs.map en) s = some s' ∧ I xs.length s' := by
  have := fold_inv (step := step) I (xs.map en) s 0 h0 (fun i d s hd hi => by
    rw [Nat.zero_add] at hi ⊢
    simp only [List.getElem?_map, Option.map_eq_some_iff] at hd
    obtain ⟨x, hx, rfl⟩ := hd
    obtain ⟨hlt, hx⟩ := List.getElem?_eq_some_iff.mp hx
    rw [← hx]
    exact hs i hlt s hi)
  rwa [List.length_map, Nat.zero_add] at this
/-- a loop with an early return: run to the end, or stopped at the first item that returns -/
theorem foldC_run {S ρ : Type} {step : S → D → Option (Ct S ρ)} (I : Nat → S → Prop) (W : ρ → Prop) : ∀ (ds : List D) (s : S) (k : Nat), I k s → (∀ i d s, ds[i]? = some d → I (k + i) s → (∃ s', step s d = some (.nx s') ∧ I (k + i + 1) s') ∨ ∃ r, step s d = some (.rt r) ∧ W r) → (∃ s', foldC step ds s = some (.nx s') ∧ I (k + ds.length) s') ∨ ∃ r, foldC step ds s = some (.rt r) ∧ W r
  | [], s, k, h, _ => .inl ⟨s, rfl, h⟩
  | d :: r, s, k, h, hs => by
    rcases hs 0 d s rfl h with ⟨s1, h1, h2⟩ | ⟨x, h1, h2⟩
    · rcases foldC_run I W r s1 (k + 1) h2 (fun i d' s' hd hp => by
        have := hs (i + 1) d' s' (by simpa using hd) (by rw [show k + (i + 1) = k + 1 + i by omega]; exact hp)
        rw [show k + (i + 1) + 1 = k + 1 + i + 1 by omega] at this
        exact this) with ⟨s', h3, h4⟩ | ⟨x, h3, h4⟩
      · exact .inl ⟨s', by simp only [foldC, h1, Option.bind_some, h3], by rw [List.length_cons, show k + (r.length + 1) = k + 1 + r.length by omega]; exact h4⟩
      · exact .inr ⟨x, by simp only [foldC, h1, Option.bind_some, h3], h4⟩
    · exact .inr ⟨x, by simp only [foldC, h1, Option.bind_some], h2⟩
theorem foldC_range {S ρ : Type} {step : S → D → Option (Ct S ρ)} (I : Nat → S → Prop) (W : ρ → Prop) (n : Nat) (s : S) (h0 : I 0 s) (hs : ∀ i s, i < n → I i s → (∃ s', step s (.int (i : Int)) = some (.nx s') ∧ I (i + 1) s') ∨ ∃ r, step s (.int (i : Int)) = some (.rt r) ∧ W r) : (∃ s', foldC step (rangeD 0 (n : Int)) s = some (.nx s') ∧ I n s') ∨ ∃ r, foldC step (rangeD 0 (n : Int)) s = some (.rt r) ∧ W r := by
  have := foldC_run (step := step) I W (rangeD 0 (n : Int)) s 0 h0 (fun i d s hd hi => by
    obtain ⟨hlt, rfl⟩ := rng_at hd
    rw [Nat.zero_add] at hi ⊢
    exact hs i s hlt hi)
  rwa [rng_len, Nat.zero_add] at this
/-- old lemmas -/
theorem qc_of {fn : List T → Option T} {ts : List T} {d : D} (h : callT fn ts = some (.p d)) : qc fn ts = some d := by simp [qc, h]
end C
namespace C
open PySem PySem.Spec PyProof.Rows L2 M N B

/-- no truths, no dicts; at most n deep -/
def Pln : Nat → D → Prop
  | _, .int _ => True
  | _, .none => True
  | _, .str x => PyData.strOk x = true
  | n + 1, .tuple ds => ∀ d ∈ ds, Pln n d
  | n + 1, .list ds => ∀ d ∈ ds, Pln n d
  | _, _ => False
theorem Pln.mono : ∀ {n m : Nat} {d : D}, Pln n d → n ≤ m → Pln m d := by
  intro n
  induction n with
  | zero => intro m d h _; cases d <;> cases m <;> simp_all [Pln]
  | succ n ih =>
    intro m d h hm
    cases m with
    | zero => omega
    | succ m =>
      cases d with
      | tuple ds => exact fun x hx => ih (h x hx) (by omega)
      | list ds => exact fun x hx => ih (h x hx) (by omega)
      | _ => simp_all [Pln]
theorem lay_all {n : Nat} (ih : ∀ d, Pln n d → d.canLay0 = true ∧ d.depth ≤ n) : ∀ ds : List D, (∀ d ∈ ds, Pln n d) → PyData.canLayAll0 ds = true ∧ PyData.depthAll ds ≤ n
  | [], _ => by simp [PyData.canLayAll0, PyData.depthAll]
  | d :: r, h => by
    have h1 := ih d (h d List.mem_cons_self)
    have h2 := lay_all ih r fun x hx => h x (List.mem_cons_of_mem _ hx)
    simp only [PyData.canLayAll0, PyData.depthAll, h1.1, h2.1, Bool.and_self, true_and]
    omega
theorem Pln.lay : ∀ {n : Nat} (d : D), Pln n d → d.canLay0 = true ∧ d.depth ≤ n := by
  intro n
  induction n with
  | zero => intro d h; cases d <;> simp_all [Pln, PyData.canLay0, PyData.depth]
  | succ n ih =>
    intro d h
    cases d with
    | tuple ds => have := lay_all ih ds h; simp only [PyData.canLay0, PyData.depth]; exact ⟨this.1, by omega⟩
    | list ds => have := lay_all ih ds h; simp only [PyData.canLay0, PyData.depth]; exact ⟨this.1, by omega⟩
    | _ => simp_all [Pln, PyData.canLay0, PyData.depth]
theorem Pln.shaped {n : Nat} {d : D} (h : Pln n d) (hn : n ≤ 64) : SeqAt.shaped d = true := by
  have := h.lay
  unfold SeqAt.shaped
  simp only [Bool.and_eq_true, decide_eq_true_eq]
  exact ⟨this.1, by omega⟩
theorem eqv_all {n : Nat} (ih : ∀ d e, Pln n d → Pln n e → (PyData.eqv d e = true ↔ d = e)) : ∀ ds es : List D, (∀ d ∈ ds, Pln n d) → (∀ d ∈ es, Pln n d) → (PyData.eqvAll ds es = true ↔ ds = es)
  | [], [], _, _ => by simp [PyData.eqvAll]
  | [], _ :: _, _, _ => by simp [PyData.eqvAll]
  | _ :: _, [], _, _ => by simp [PyData.eqvAll]
  | d :: r, e :: t, h, h' => by
    have h1 := ih d e (h d List.mem_cons_self) (h' e List.mem_cons_self)
    have h2 := eqv_all ih r t (fun x hx => h x (List.mem_cons_of_mem _ hx)) fun x hx => h' x (List.mem_cons_of_mem _ hx)
    simp only [PyData.eqvAll, Bool.and_eq_true, h1, h2, List.cons.injEq]
theorem eqv_iff : ∀ {n : Nat} (d e : D), Pln n d → Pln n e → (PyData.eqv d e = true ↔ d = e) := by
  intro n
  induction n with
  | zero => intro d e h h'; cases d <;> cases e <;> simp_all [Pln, PyData.eqv]
  | succ n ih =>
    intro d e h h'
    cases d with
    | tuple ds =>
      cases e with
      | tuple es => simp only [PyData.eqv, PyData.tuple.injEq]; exact eqv_all ih ds es h h'
      | _ => simp_all [Pln, PyData.eqv]
    | list ds =>
      cases e with
      | list es => simp only [PyData.eqv, PyData.list.injEq]; exact eqv_all ih ds es h h'
      | _ => simp_all [Pln, PyData.eqv]
    | _ => cases e <;> simp_all [Pln, PyData.eqv]
section
variable {n : Nat} {d e : D}
theorem op_eq (p : Pln n d) (q : Pln n e) (hn : n ≤ 64 := by decide) : op2 M.eqT d e = some (.bool (PyData.eqv d e)) := by
  simp [op2, M.eqT, p.shaped hn, q.shaped hn]
theorem op_ne (p : Pln n d) (q : Pln n e) (hn : n ≤ 64 := by decide) : op2 M.neT d e = some (.bool (!PyData.eqv d e)) := by
  simp [op2, M.neT, p.shaped hn, q.shaped hn]
theorem c_eq {P : Prop} [Decidable P] (p : Pln n d) (q : Pln n e) (h : d = e ↔ P) (hn : n ≤ 64 := by decide) : op2 M.eqT d e = some (.bool (decide P)) := by
  rw [op_eq p q hn]
  congr 2
  have := eqv_iff d e p q
  rw [Bool.eq_iff_iff, this, decide_eq_true_eq, h]
theorem c_ne {P : Prop} [Decidable P] (p : Pln n d) (q : Pln n e) (h : d = e ↔ P) (hn : n ≤ 64 := by decide) : op2 M.neT d e = some (.bool (!decide P)) := by
  rw [op_ne p q hn]
  congr 2
  have := eqv_iff d e p q
  rw [Bool.eq_iff_iff, Bool.not_eq_true', Bool.not_eq_true', Bool.eq_false_iff, Bool.eq_false_iff, ne_eq, ne_eq, this, decide_eq_true_eq, h]
end
theorem pln_ints (xs : List Int) : ∀ d ∈ enI xs, Pln 0 d := by
  intro d hd
  unfold enI at hd
  obtain ⟨x, _, rfl⟩ := List.mem_map.mp hd
  trivial
theorem pln_Q (q : Rat) : Pln 1 (enQ q) := by
  intro d hd
  simp at hd
  rcases hd with rfl | rfl <;> trivial
theorem enQ_inj {p q : Rat} (h : enQ p = enQ q) : p = q := by
  unfold enQ at h
  simp at h
  exact Rat.ext h.1 (by exact_mod_cast h.2)
theorem ne_Q (p q : Rat) : op2 M.neT (enQ p) (enQ q) = some (.bool (!decide (p = q))) := c_ne (pln_Q p) (pln_Q q) ⟨enQ_inj, fun h => by rw [h]⟩
theorem eq_Q (p q : Rat) : op2 M.eqT (enQ p) (enQ q) = some (.bool (decide (p = q))) := c_eq (pln_Q p) (pln_Q q) ⟨enQ_inj, fun h => by rw [h]⟩
theorem one_Q : PyData.tuple [.int 1, .int 1] = enQ 1 := rfl
theorem zero_Q : PyData.tuple [.int 0, .int 1] = enQ 0 := rfl
theorem p_cell (ns : List Int) (k : Int) (hk : 0 ≤ k) : ∃ c, P.law_cell_at ns (.int k) = some (.int c) := by
  obtain ⟨c, h⟩ := c_cell_at ns k hk
  exact ⟨c, qc_of h⟩
theorem p_draws (cell many base : Int) (hm : 0 ≤ many := by decide) (hm2 : many ≤ 1000 := by decide) (hb : 0 < base := by decide) (hb2 : base < 2 ^ 60 := by decide) :
    ∃ xs : List Int, P.law_draws (.int cell) (.int many) (.int base) = some (.list (enI xs)) ∧ xs.length = many.toNat ∧ ∀ x ∈ xs, 0 ≤ x ∧ x < base := by
  obtain ⟨xs, h, h2⟩ := c_draws cell many base hm hm2 hb hb2
  exact ⟨xs, qc_of h, h2⟩
theorem p_a_book (ns : List Int) (at' most : Int) (h0 : 0 ≤ at' := by decide) (hm : 1 ≤ most := by decide) (hm2 : most ≤ 100 := by decide) :
    ∃ (n : Nat) (bk : List Buy), P.law_a_book ns (.int at') (.int most) = some (enBk bk) ∧ ValidBook n bk ∧ (bk.length : Int) ≤ most := by
  obtain ⟨n, bk, h, h2⟩ := a_book ns at' most h0 hm hm2
  exact ⟨n, bk, qc_of h, h2⟩
/-- an item of a list of ints -/
theorem at_ex {xs : List Int} {i : Int} (h0 : 0 ≤ i) (h1 : i < xs.length) : ∃ x ∈ xs, atI (enI xs) i = some (.int x) := atI_ex h0 h1
theorem small_of {j : Int} (h1 : 0 ≤ j) (h2 : j ≤ 1000000) : smallI j := ⟨by omega, h2⟩
theorem atB {bk : List Buy} {k : Nat} (h : k < bk.length) : atI (bk.map enB) (k : Int) = some (enB bk[k]) := by
  rw [atI_lt (by omega) (by simpa using h)]
  simp
end C
namespace C
open PySem PySem.Spec PyProof.Rows L2 M N B

theorem dot_nn : ∀ {ps as : List Int}, (∀ p ∈ ps, 0 ≤ p) → (∀ a ∈ as, 0 ≤ a) → 0 ≤ dot ps as
  | [], _, _, _ => by simp [dot]
  | _ :: _, [], _, _ => by simp [dot]
  | p :: ps, a :: as, h1, h2 => by
    have := dot_nn (fun x hx => h1 x (List.mem_cons_of_mem _ hx)) (fun x hx => h2 x (List.mem_cons_of_mem _ hx)) (ps := ps) (as := as)
    have := Int.mul_nonneg (h1 p List.mem_cons_self) (h2 a List.mem_cons_self)
    simp only [dot]; omega
theorem dot_pos : ∀ {ps as : List Int}, ps.length = as.length → (∀ p ∈ ps, 1 ≤ p) → (∀ a ∈ as, 0 ≤ a) → (∃ a ∈ as, 0 < a) → 0 < dot ps as
  | [], [], _, _, _, h => by simp at h
  | [], _ :: _, h, _, _, _ => by simp at h
  | _ :: _, [], h, _, _, _ => by simp at h
  | p :: ps, a :: as, hl, h1, h2, h3 => by
    have hp := h1 p List.mem_cons_self
    have ha := h2 a List.mem_cons_self
    have r0 := dot_nn (ps := ps) (as := as) (fun x hx => by have := h1 x (List.mem_cons_of_mem _ hx); omega) (fun x hx => h2 x (List.mem_cons_of_mem _ hx))
    simp only [dot]
    by_cases h : 0 < a
    · have := Int.mul_pos (show 0 < p by omega) h; omega
    · have h0 : a = 0 := by omega
      subst h0
      have := dot_pos (ps := ps) (as := as) (by simpa using hl) (fun x hx => h1 x (List.mem_cons_of_mem _ hx)) (fun x hx => h2 x (List.mem_cons_of_mem _ hx)) (by
        obtain ⟨x, hx, hx0⟩ := h3
        rcases List.mem_cons.mp hx with rfl | hx
        · omega
        · exact ⟨x, hx, hx0⟩)
      omega
theorem dot_le {M N : Int} (hM : 0 ≤ M) (hN : 0 ≤ N) : ∀ {ps as : List Int}, (∀ p ∈ ps, 0 ≤ p ∧ p ≤ M) → (∀ a ∈ as, 0 ≤ a ∧ a ≤ N) → dot ps as ≤ ps.length * (M * N)
  | [], _, _, _ => by simp [dot]
  | _ :: _, [], _, _ => by simp only [dot]; exact Int.mul_nonneg (by simp; omega) (Int.mul_nonneg hM hN)
  | p :: ps, a :: as, h1, h2 => by
    have := dot_le hM hN (fun x hx => h1 x (List.mem_cons_of_mem _ hx)) (fun x hx => h2 x (List.mem_cons_of_mem _ hx)) (ps := ps) (as := as)
    have a1 := h1 p List.mem_cons_self
    have a2 := h2 a List.mem_cons_self
    have : p * a ≤ M * N := Int.mul_le_mul a1.2 a2.2 a2.1 hM
    simp only [dot, List.length_cons, Int.natCast_add, Int.add_mul]
    omega
/-- what costs of a valid book come to -/
theorem _root_.B.ValidBook.cost {n : Nat} {bk : List Buy} (v : ValidBook n bk) {b c : Buy} (hb : b ∈ bk) (hc : c ∈ bk) : 0 ≤ dot b.1 c.2 ∧ dot b.1 c.2 ≤ 6000000000000 := by
  have gb := v.all b hb
  have gc := v.all c hc
  refine ⟨dot_nn (fun p hp => by have := gb.pr p hp; omega) fun a ha => (gc.am a ha).1, ?_⟩
  have := dot_le (M := 1000000) (N := 1000000) (by decide) (by decide) (ps := b.1) (as := c.2) (fun p hp => by have := gb.pr p hp; omega) gc.am
  have h6 := v.n6
  rw [gb.lp] at this
  have : (n : Int) * (1000000 * 1000000) ≤ 6 * (1000000 * 1000000) := by omega
  omega
theorem _root_.B.ValidBook.own {n : Nat} {bk : List Buy} (v : ValidBook n bk) {b : Buy} (hb : b ∈ bk) : 0 < dot b.1 b.2 := by
  have gb := v.all b hb
  exact dot_pos (by rw [gb.lp, gb.la]) (fun p hp => (gb.pr p hp).1) (fun a ha => (gb.am a ha).1) gb.ps
theorem cM_eq {bk : List Buy} {i j : Nat} (hi : i < bk.length) (hj : j < bk.length) : cM bk i j = dot bk[i].1 bk[j].2 := by
  unfold cM
  rw [getD_lt hi, getD_lt hj]
theorem _root_.B.ValidBook.priced {n : Nat} {bk : List Buy} (v : ValidBook n bk) (h : bk.length ≤ 1000) : Priced bk := ⟨h, fun b hb => by
  have gb := v.all b hb
  have := v.n6
  exact ⟨by rw [gb.lp]; omega, fun p hp => by have := gb.pr p hp; omega⟩⟩
theorem reach_map {W W' : Nat → Nat → Prop} (f : Nat → Nat) (h : ∀ a b, W a b → W' (f a) (f b)) {a b : Nat} (r : Reach W a b) : Reach W' (f a) (f b) := by
  induction r with
  | refl => exact .refl
  | step _ w ih => exact .step ih (h _ _ w)
end C
namespace C
open PySem PySem.Spec PyProof.Rows L2 M N B

end C
namespace C
open PySem PySem.Spec PyProof.Rows L2 M N B

theorem steps_reach {W : Nat → Nat → Prop} : ∀ {p : List Nat} {a b : Nat}, Steps W p → p.head? = some a → p.getLast? = some b → Reach W a b
  | [], _, _, _, h, _ => by simp at h
  | [x], a, b, _, h1, h2 => by simp at h1 h2; subst h1 h2; exact .refl
  | x :: y :: r, a, b, s, h1, h2 => by
    simp at h1
    subst h1
    have := steps_reach (p := y :: r) s.2 rfl (by simpa using h2)
    exact reach_trans (.step .refl s.1) this
end C
namespace C
open PySem PySem.Spec PyProof.Rows L2 M N B

section
variable {bk bk' : List Buy} {b : Buy} {k : Nat} {xs : List Int}
theorem bk_ix (h : k < bk.length) : op2 idxT (enBk bk) (.int (k : Int)) = some (enB bk[k]) := by unfold enBk; rw [c_ixl, atB h]
@[simp] theorem B_0 : op2 idxT (enB b) (.int 0) = some (.tuple (enI b.1)) := rfl
@[simp] theorem B_1 : op2 idxT (enB b) (.int 1) = some (.tuple (enI b.2)) := rfl
@[simp] theorem len_bk : lenT [.p (enBk bk)] = some (.p (.int bk.length)) := by unfold enBk; simp
theorem add_bk (h : bk.length + bk'.length ≤ LIM) : op2 addT (enBk bk) (enBk bk') = some (enBk (bk ++ bk')) := by
  unfold enBk; simp [h]
@[simp] theorem slice_bk {lo hi : Option Int} : sliceT (.p (enBk bk)) lo hi = some (.p (enBk (cutL bk lo hi))) := by
  unfold enBk; simp [cutL_enB]
theorem one_bk : PyData.list [enB b] = enBk [b] := rfl
theorem mk_B' (xs ys : List Int) : PyData.tuple [.tuple (enI xs), .tuple (enI ys)] = enB (xs, ys) := rfl
@[simp] theorem un_B {R : Type} {f : D → D → Option R} : un2 (enB b) f = f (.tuple (enI b.1)) (.tuple (enI b.2)) := rfl
@[simp] theorem iseq_bk : iseq (some (enBk bk)) = some (bk.map enB) := rfl
@[simp] theorem rev_bk : xrev (some (enBk bk)) = some (enBk bk.reverse) := by unfold enBk; simp
@[simp] theorem rev_enI : (enI xs).reverse = enI xs.reverse := by simp [enI]
theorem cut_from {α : Type} (xs : List α) (k : Nat) (h : k ≤ xs.length) : cutL xs (some (k : Int)) none = xs.drop k := by
  simp only [cutL, HT.sIx]
  rw [if_neg (by omega), show min (k : Int).toNat xs.length = k by omega]
  exact List.take_of_length_le (by simp)
theorem cut_upto {α : Type} (xs : List α) (k : Nat) : cutL xs none (some (k : Int)) = xs.take k := by
  rw [cut_to xs k (by omega)]; simp
theorem mulI_small {i j : Int} (h : i.natAbs < 2 ^ 64) : mulOk i j = true := mulOk_l h
theorem map_enI {h : D → Option D} (f : Int → Int) (xs : List Int) (hl : xs.length ≤ LIM) (hx : ∀ x ∈ xs, h (.int x) = some (.int (f x))) : xmap h (some (enI xs)) = some (.list (enI (xs.map f))) := by
  unfold enI
  rw [xmap_of PyData.int (fun x => .int (f x)) xs hl hx, List.map_map]; rfl
@[simp] theorem tup_enI : tupleT [.p (.list (enI xs))] = some (.p (.tuple (enI xs))) := rfl
end
theorem _root_.B.ValidBook.app {n : Nat} {bk : List Buy} (v : ValidBook n bk) {c : Buy} (g : Good n c) : ValidBook n (bk ++ [c]) :=
  ⟨v.n1, v.n6, by simp, fun b hb => by
    rcases List.mem_append.mp hb with z | z
    · exact v.all b z
    · simp at z; rw [z]; exact g⟩
theorem _root_.B.ValidBook.sub {n : Nat} {bk bk' : List Buy} (v : ValidBook n bk) (h : ∀ b ∈ bk', b ∈ bk) (h1 : 1 ≤ bk'.length) : ValidBook n bk' := ⟨v.n1, v.n6, h1, fun b hb => v.all b (h b hb)⟩
theorem _root_.B.ValidBook.set {n : Nat} {bk : List Buy} (v : ValidBook n bk) {c : Buy} (g : Good n c) (k : Nat) : ValidBook n (bk.set k c) :=
  ⟨v.n1, v.n6, by simpa using v.ne, fun b hb => by
    rcases List.mem_or_eq_of_mem_set hb with z | z
    · exact v.all b z
    · rw [z]; exact g⟩
end C
set_option exponentiation.threshold 100
namespace C
open PySem PySem.Spec PyProof.Rows L2 M N B

abbrev CF := Nat → Nat → Int
abbrev WF := Nat → Rat
/-- costs of at most 13 buyings -/
structure Cst (n : Nat) (c : CF) : Prop where
  n1 : 1 ≤ n
  n13 : n ≤ 13
  lo : ∀ i j, i < n → j < n → 1 ≤ c i j
  hi : ∀ i j, i < n → j < n → c i j ≤ 6000000000000
def rowC (n : Nat) (c : CF) (i : Nat) : List D := (List.range n).map fun j => .int (c i j)
def enCm (n : Nat) (c : CF) : D := .list ((List.range n).map fun i => .list (rowC n c i))
theorem enC_eq (bk : List Buy) : enC bk = enCm bk.length (cM bk) := by
  unfold enC enCm rowC cRow enI
  simp only [List.map_map]
  rfl
theorem _root_.B.ValidBook.cst {n : Nat} {bk : List Buy} (v : ValidBook n bk) (h : bk.length ≤ 13) : Cst bk.length (cM bk) := by
  refine ⟨v.ne, h, fun i j hi hj => ?_, fun i j hi hj => ?_⟩
  · rw [cM_eq hi hj]
    have gi := v.all _ (List.getElem_mem hi)
    have gj := v.all _ (List.getElem_mem hj)
    have := dot_pos (ps := bk[i].1) (as := bk[j].2) (by rw [gi.lp, gj.la]) (fun p hp => (gi.pr p hp).1) (fun a ha => (gj.am a ha).1) gj.ps
    omega
  · rw [cM_eq hi hj]; exact (v.cost (List.getElem_mem hi) (List.getElem_mem hj)).2
theorem p_costs {n : Nat} {bk : List Buy} (v : ValidBook n bk) (h : bk.length ≤ 1000) : P.costs_of (enBk bk) = some (enCm bk.length (cM bk)) := by
  have := costs_of bk (v.priced h)
  rw [enM_costs, enC_eq] at this
  exact qc_of this
section
variable {n : Nat} {c : CF} {i j : Nat} {w : WF}
@[simp] theorem len_Cm : lenT [.p (enCm n c)] = some (.p (.int n)) := by unfold enCm; simp
theorem ix_Cm (h : i < n) : op2 idxT (enCm n c) (.int (i : Int)) = some (.list (rowC n c i)) := by
  unfold enCm; rw [c_ixl, at_range h]
theorem ix_rowC (h : j < n) : op2 idxT (.list (rowC n c i)) (.int (j : Int)) = some (.int (c i j)) := by
  unfold rowC; rw [c_ixl, at_range h]
def wl (n : Nat) (w : WF) : List D := (List.range n).map fun i => enQ (w i)
theorem ix_wl (h : i < n) : op2 idxT (.list (wl n w)) (.int (i : Int)) = some (enQ (w i)) := by
  unfold wl; rw [c_ixl, at_range h]
theorem at_wl (h : i < n) : atI (wl n w) (i : Int) = some (enQ (w i)) := by unfold wl; rw [at_range h]
theorem at_rowC (h : j < n) : atI (rowC n c i) (j : Int) = some (.int (c i j)) := by unfold rowC; rw [at_range h]
def updW (w : WF) (j : Nat) (q : Rat) : WF := fun i => if i = j then q else w i
theorem updW_same {q : Rat} : updW w j q j = q := by simp [updW]
theorem updW_ne {q : Rat} (h : i ≠ j) : updW w j q i = w i := by simp [updW, h]
theorem set_wl {q : Rat} (h : j < n) : setL (wl n w) (.int (j : Int)) (enQ q) = some (wl n (updW w j q)) := by
  unfold setL wl
  simp only [c_intD, Option.bind_some]
  rw [ix_range h, Option.map_some, range_set]
  congr 1
  refine List.map_congr_left fun i _ => ?_
  unfold updW; split <;> rfl
end
theorem sz_int {k : Nat} {a : Int} {M : Nat} (h : a.natAbs ≤ M) (hM : M < 2 ^ k) : Sz k a := Nat.lt_of_le_of_lt h hM
theorem sz_cost {n : Nat} {c : CF} (h : Cst n c) {i j : Nat} (hi : i < n) (hj : j < n) : Sz 43 (c i j) := by
  have h1 := h.lo i j hi hj
  have h2 := h.hi i j hi hj
  exact sz_int (M := 6000000000000) (by omega) (by decide)
theorem q_eq (q : Rat) : q = Rat.divInt q.num q.den := by rw [Rat.divInt_ofNat, Rat.mkRat_self]
theorem szq_mulI {k l : Nat} {q : Rat} {c : Int} (h : SzQ k q) (hc : Sz l c) : SzQ (k + l) (q * c) := by
  have e : q * c = Rat.divInt (q.num * c) q.den := by
    conv => lhs; rw [q_eq q, ← divInt_1 c]
    rw [Rat.divInt_mul_divInt]
    simp
  rw [e]
  exact szq_divInt (den_ne q) (h.1.mul hc) (h.2.mono (by omega))
theorem szq_divI {k l : Nat} {q : Rat} {c : Int} (hc0 : c ≠ 0) (h : SzQ k q) (hc : Sz l c) : SzQ (k + l) (q / c) := by
  have e : q / c = Rat.divInt q.num (q.den * c) := by
    conv => lhs; rw [q_eq q, ← divInt_1 c, Rat.div_def, Rat.inv_divInt]
    rw [Rat.divInt_mul_divInt]
    simp
  rw [e]
  exact szq_divInt (Int.mul_ne_zero (den_ne q) hc0) (h.1.mono (by omega)) (h.2.mul hc)
theorem szq_add {k l : Nat} {p q : Rat} (h : SzQ k p) (h' : SzQ l q) : SzQ (k + l + 1) (p + q) := by
  have e : p + q = Rat.divInt (p.num * q.den + q.num * p.den) (p.den * q.den) := by
    conv => lhs; rw [q_eq p, q_eq q]
    rw [Rat.divInt_add_divInt _ _ (den_ne p) (den_ne q)]
  rw [e]
  refine szq_divInt (Int.mul_ne_zero (den_ne p) (den_ne q)) ?_ ((h.2.mul h'.2).mono (by omega))
  refine Sz.add (k := k + l) (h.1.mul h'.2) ?_
  have := h'.1.mul h.2
  rwa [Nat.add_comm] at this
theorem szq_neg {k : Nat} {p : Rat} (h : SzQ k p) : SzQ k (-p) := by
  refine ⟨?_, ?_⟩
  · rw [Rat.neg_num]; have := h.1; unfold Sz at this ⊢; simpa using this
  · rw [Rat.neg_den]; exact h.2
theorem szq_sub {k l : Nat} {p q : Rat} (h : SzQ k p) (h' : SzQ l q) : SzQ (k + l + 1) (p - q) := by
  rw [Rat.sub_eq_add_neg]; exact szq_add h (szq_neg h')
theorem szq_ofInt {k : Nat} {a : Int} (h : Sz k a) (hk : 1 ≤ k) : SzQ k (a : Rat) := by
  rw [← divInt_1 a]
  exact szq_divInt (by decide) h (by unfold Sz; exact Nat.one_lt_two_pow (by omega))
theorem szq_one {k : Nat} (hk : 1 ≤ k) : SzQ k 1 := ⟨Nat.one_lt_two_pow (by omega), Nat.one_lt_two_pow (by omega)⟩
theorem fr_div {a b : Int} (hb : b ≠ 0) (sb : Sz 9000 b) : P.fraction (.int a) (.int b) = some (enQ (Rat.divInt a b)) := qc_of (fraction a b hb sb)
theorem p_isless {p q : Rat} (hp : SzQ 100000 p) (hq : SzQ 100000 q) : P.is_less (enQ p) (enQ q) = some (.bool (decide (p < q))) := qc_of (is_less p q hp hq)
theorem p_lesser {p q : Rat} (hp : SzQ 100000 p) (hq : SzQ 100000 q) : P.lesser (enQ p) (enQ q) = some (enQ (if q < p then q else p)) := qc_of (lesser p q hp hq)
theorem p_greater {p q : Rat} (hp : SzQ 100000 p) (hq : SzQ 100000 q) : P.greater (enQ p) (enQ q) = some (enQ (if p < q then q else p)) := qc_of (greater p q hp hq)
theorem p_plus {p q : Rat} (hp : SzQ 4400 p) (hq : SzQ 4400 q) : P.plus (enQ p) (enQ q) = some (enQ (p + q)) := qc_of (plus p q hp hq)
theorem p_minus {p q : Rat} (hp : SzQ 4400 p) (hq : SzQ 4400 q) : P.minus (enQ p) (enQ q) = some (enQ (p - q)) := qc_of (minus p q hp hq)
theorem p_times {p : Rat} {k : Int} (hp : SzQ 8000 p) (hk : Sz 8000 k) : P.times (enQ p) (.int k) = some (enQ (p * k)) := qc_of (times p k hp hk)
theorem over' (p : Rat) (k : Int) (hk0 : k ≠ 0) (hp : SzQ 8900 p) (hk : Sz 90 k) : callT Q.over [.p (enQ p), .p (.int k)] = some (.p (enQ (p / k))) := by
  have hb : (p.den : Int) * k ≠ 0 := Int.mul_ne_zero (den_ne p) hk0
  have e : p / (k : Rat) = Rat.divInt p.num (p.den * k) := by
    conv => lhs; rw [q_eq p, ← divInt_1 k, Rat.div_def, Rat.inv_divInt]
    rw [Rat.divInt_mul_divInt]
    simp
  have hm : mulOk (p.den : Int) k = true := mulOk_sz hp.2 hk (by decide)
  have hf := fraction p.num (p.den * k) hb ((hp.2.mul hk).mono (by decide))
  refine callT_p rfl ?_
  unfold Q.over
  refine run_ret ?_
  rw [e]
  simp only [startE, List.map_cons, List.map_nil, List.length_cons, List.length_nil, ev_mCall, ev_aCons, ev_aNil, ev_mOp, ev_mVar, ev_mC]
  simp [enQ, at_q0, at_q1, hm, hf]
theorem p_over {p : Rat} {k : Int} (hk0 : k ≠ 0) (hp : SzQ 8900 p) (hk : Sz 90 k) : P.over (enQ p) (.int k) = some (enQ (p / k)) := qc_of (over' p k hk0 hp hk)
structure Dk (n : Nat) (b : List (Key × D)) (f : Nat → Option D) : Prop where
  nd : (b.map (·.1)).Nodup
  ks : ∀ kv ∈ b, ∃ v, v < n ∧ kv.1 = .inl (v : Int)
  val : ∀ v : Nat, valD b (.inl (v : Int)) = f v
theorem Dk.nil (n : Nat) : Dk n [] fun _ => none := ⟨by simp, by simp, fun _ => rfl⟩
theorem nodup_le {α : Type} : ∀ {l m : List α}, l.Nodup → (∀ x ∈ l, x ∈ m) → l.length ≤ m.length := by
  classical
  intro l
  induction l with
  | nil => intro m _ _; simp
  | cons a r ih =>
    intro m nd h
    have h1 := List.nodup_cons.mp nd
    have ha : a ∈ m := h a List.mem_cons_self
    have := ih (m := m.erase a) h1.2 fun x hx => by
      have hne : x ≠ a := fun z => h1.1 (z ▸ hx)
      exact (List.mem_erase_of_ne hne).mpr (h x (List.mem_cons_of_mem _ hx))
    rw [List.length_erase_of_mem ha] at this
    have : 0 < m.length := List.length_pos_of_mem ha
    simp only [List.length_cons]; omega
theorem Dk.len {n : Nat} {b : List (Key × D)} {f : Nat → Option D} (h : Dk n b f) : b.length ≤ n := by
  have := nodup_le (l := b.map (·.1)) (m := (List.range n).map fun (v : Nat) => (Sum.inl (v : Int) : Key)) h.nd fun x hx => by
    obtain ⟨kv, hkv, rfl⟩ := List.mem_map.mp hx
    obtain ⟨v, hv, e⟩ := h.ks kv hkv
    rw [e]
    exact List.mem_map.mpr ⟨v, List.mem_range.mpr hv, rfl⟩
  simpa using this
theorem val_put (b : List (Key × D)) (k k' : Key) (d : D) : valD (putD b k d) k' = if k = k' then some d else valD b k' := by
  unfold putD
  by_cases hk : (b.any fun kv => decide (kv.1 = k)) = true
  · rw [if_pos hk]
    induction b with
    | nil => simp at hk
    | cons x r ih =>
      obtain ⟨xk, xd⟩ := x
      simp only [List.map_cons, valD, List.find?_cons]
      by_cases e1 : xk = k
      · subst e1
        simp only [if_true]
        by_cases e2 : xk = k'
        · simp [e2]
        · simp only [e2, decide_false, if_false]
          by_cases hr : (r.any fun kv => decide (kv.1 = xk)) = true
          · have := ih hr
            simp only [valD, e2, if_false] at this
            exact this
          · have : (r.map fun kv => if kv.1 = xk then (kv.1, d) else kv) = r := by
              refine (List.map_congr_left fun kv hkv => ?_).trans (List.map_id _)
              rw [if_neg]; rfl
              intro z
              exact hr (List.any_eq_true.mpr ⟨kv, hkv, by simp [z]⟩)
            rw [this]
      · simp only [e1, if_false]
        have hr : (r.any fun kv => decide (kv.1 = k)) = true := by simpa [e1] using hk
        have := ih hr
        simp only [valD] at this
        by_cases e2 : xk = k'
        · subst e2
          have : ¬ k = xk := fun z => e1 z.symm
          simp [this]
        · simp only [e2, decide_false]
          exact this
  · rw [if_neg hk]
    simp only [valD, List.find?_append]
    have hn : ∀ kv ∈ b, ¬ kv.1 = k := fun kv hkv z => hk (List.any_eq_true.mpr ⟨kv, hkv, by simp [z]⟩)
    by_cases e : k = k'
    · subst e
      have : b.find? (fun kv => decide (kv.1 = k)) = none := List.find?_eq_none.mpr fun kv hkv => by simpa using hn kv hkv
      simp [this]
    · simp [e]
theorem Dk.put {n : Nat} {b : List (Key × D)} {f : Nat → Option D} (h : Dk n b f) {v : Nat} (hv : v < n) (hn : n ≤ 1000) (d : D) : ∃ b', putP b (.int (v : Int)) d = some b' ∧ Dk n b' fun i => if i = v then some d else f i := by
  refine ⟨putD b (.inl (v : Int)) d, ?_, ?_, ?_, ?_⟩
  · unfold putP
    have : b.length < LIM := by have := h.len; unfold LIM; omega
    simp [keyOf?, this]
  · unfold putD
    split
    · rw [List.map_map]
      have : ((fun x : Key × D => x.1) ∘ fun kv => if kv.1 = Sum.inl (v : Int) then (kv.1, d) else kv) = fun kv => kv.1 := by
        funext kv; simp only [Function.comp]; split <;> rfl
      rw [this]; exact h.nd
    · rename_i hk
      rw [List.map_append, List.nodup_append]
      refine ⟨h.nd, by simp, fun a ha x hx e => ?_⟩
      simp at hx
      subst hx e
      obtain ⟨kv, hkv, e⟩ := List.mem_map.mp ha
      exact hk (List.any_eq_true.mpr ⟨kv, hkv, by simp [e]⟩)
  · intro kv hkv
    unfold putD at hkv
    split at hkv
    · obtain ⟨x, hx, rfl⟩ := List.mem_map.mp hkv
      obtain ⟨u, hu, e⟩ := h.ks x hx
      refine ⟨u, hu, ?_⟩
      split <;> exact e
    · rcases List.mem_append.mp hkv with z | z
      · exact h.ks kv z
      · simp at z; rw [z]; exact ⟨v, hv, rfl⟩
  · intro u
    rw [val_put, h.val u]
    by_cases e : u = v
    · subst e; simp
    · have : ¬ (Sum.inl (v : Int) : Key) = Sum.inl (u : Int) := by simp; omega
      simp [e, this]
end C
namespace C
open PySem PySem.Spec PyProof.Rows L2 M N B

/-- what the other one's worth can be at most -/
def stp (sc : Bool) (c : CF) (w : WF) (u v : Nat) : Rat := if sc then w u * (c u v : Rat) / (c u u : Rat) else w u + ((c u v - c u u : Int) : Rat)
section
variable {n : Nat} {c : CF} {sc : Bool} {w w' : WF} {u v : Nat}
theorem qpos {k : Int} (h : 1 ≤ k) : (0 : Rat) < (k : Rat) := by exact_mod_cast (show (0 : Int) < k by omega)
theorem div_lt_div {a b d : Rat} (hd : 0 < d) (h : a < b) : a / d < b / d := by
  rw [Rat.div_lt_iff hd, Rat.div_mul_cancel (by grind)]; exact h
theorem stp_lt (h : Cst n c) (hu : u < n) (hv : v < n) (hl : w u < w' u) : stp sc c w u v < stp sc c w' u v := by
  unfold stp
  cases sc with
  | true =>
    simp only [if_true]
    exact div_lt_div (qpos (h.lo u u hu hu)) (Rat.mul_lt_mul_of_pos_right hl (qpos (h.lo u v hu hv)))
  | false =>
    simp only [Bool.false_eq_true, if_false]
    grind
theorem stp_congr (e : w u = w' u) : stp sc c w u v = stp sc c w' u v := by unfold stp; rw [e]
theorem stp_self (h : Cst n c) (hu : u < n) : stp sc c w u u = w u := by
  unfold stp
  cases sc with
  | true => simp only [if_true]; rw [Rat.mul_div_cancel]; have := qpos (h.lo u u hu hu); grind
  | false => simp only [Bool.false_eq_true, if_false, Int.sub_self]; grind
theorem stp_pos (h : Cst n c) (hu : u < n) (hv : v < n) (hw : 0 < w u) (hsc : sc = true) : 0 < stp sc c w u v := by
  subst hsc
  unfold stp
  simp only [if_true]
  have h1 := qpos (h.lo u u hu hu)
  have h2 := qpos (h.lo u v hu hv)
  have h3 : 0 < w u * (c u v : Rat) := Rat.mul_pos hw h2
  rw [Rat.lt_div_iff h1, Rat.zero_mul]
  exact h3
end
/-- what stands at each time; T: the clock -/
structure BF (n : Nat) (c : CF) (sc : Bool) (w : WF) (par : Nat → Option Nat) (τ ts : Nat → Nat) (T t : Nat) (pass : Nat → Nat → Nat) : Prop where
  pos : sc = true → ∀ v, v < n → 0 < w v
  le1 : ∀ v, v < n → w v ≤ 1
  edge : ∀ v u, v < n → par v = some u → u < n ∧ u ≠ v ∧ (stp sc c w u v < w v ∨ (stp sc c w u v = w v ∧ ts u < ts v))
  clk : ∀ v, ts v ≤ T
  root : ∀ v, v < n → par v = none → w v = 1 ∧ τ v = 0
  back : ∀ v, v < n → 1 ≤ τ v → ∃ u, par v = some u ∧ τ v ≤ τ u + 1
  tle : ∀ v, τ v ≤ t
  seen : ∀ u v, u < n → v < n → 1 ≤ pass u v → w v ≤ stp sc c w u v ∨ pass u v ≤ τ u
def upd1 {α : Type} (f : Nat → α) (j : Nat) (x : α) : Nat → α := fun i => if i = j then x else f i
theorem upd1_same {α : Type} {f : Nat → α} {j : Nat} {x : α} : upd1 f j x j = x := by simp [upd1]
theorem upd1_ne {α : Type} {f : Nat → α} {i j : Nat} {x : α} (h : i ≠ j) : upd1 f j x i = f i := by simp [upd1, h]
section
variable {n : Nat} {c : CF} {sc : Bool} {w : WF} {par : Nat → Option Nat} {τ ts : Nat → Nat} {T t : Nat} {pass pass' : Nat → Nat → Nat} {a b : Nat}
theorem BF.low (h : Cst n c) (s : BF n c sc w par τ ts T t pass) (ha : a < n) (hb : b < n) (hp : pass a b + 1 = t) (hp' : ∀ u v, u < n → v < n → pass' u v = if u = a ∧ v = b then t else pass u v) (hle : ∀ u v, u < n → v < n → pass u v ≤ t) (hl : stp sc c w a b < w b) :
    a ≠ b ∧ BF n c sc (updW w b (stp sc c w a b)) (upd1 par b (some a)) (upd1 τ b t) (upd1 ts b (T + 1)) (T + 1) t pass' := by
  have hab : a ≠ b := by
    intro z
    subst z
    rw [stp_self h ha] at hl
    grind
  have hwa : updW w b (stp sc c w a b) a = w a := updW_ne hab
  have sa : ∀ v, stp sc c (updW w b (stp sc c w a b)) a v = stp sc c w a v := fun v => stp_congr hwa
  have sne : ∀ u v, u ≠ b → stp sc c (updW w b (stp sc c w a b)) u v = stp sc c w u v := fun u v hu => stp_congr (updW_ne hu)
  have sb : ∀ v, v < n → stp sc c (updW w b (stp sc c w a b)) b v < stp sc c w b v := fun v hv => stp_lt h hb hv (by rw [updW_same]; exact hl)
  have wle : ∀ v, updW w b (stp sc c w a b) v ≤ w v := fun v => by
    by_cases e : v = b
    · rw [e, updW_same]; grind
    · rw [updW_ne e]; grind
  refine ⟨hab, ⟨fun hsc v hv => ?_, fun v hv => ?_, fun v u hv hu => ?_, fun v => ?_, fun v hv hn => ?_, fun v hv h1 => ?_, fun v => ?_, fun u v hu hv h1 => ?_⟩⟩
  · by_cases e : v = b
    · rw [e, updW_same]; exact stp_pos h ha hb (s.pos hsc a ha) hsc
    · rw [updW_ne e]; exact s.pos hsc v hv
  · have := s.le1 v hv; have := wle v; grind
  · by_cases e : v = b
    · subst e
      rw [upd1_same] at hu
      cases hu
      refine ⟨ha, hab, .inr ⟨by rw [sa, updW_same], ?_⟩⟩
      rw [upd1_ne hab, upd1_same]
      have := s.clk a; omega
    · rw [upd1_ne e] at hu
      obtain ⟨h1, h2, h3⟩ := s.edge v u hv hu
      refine ⟨h1, h2, ?_⟩
      rw [updW_ne e, upd1_ne e]
      by_cases e2 : u = b
      · subst e2
        left
        have := sb v hv
        rcases h3 with z | z <;> grind
      · rw [sne u v e2, upd1_ne e2]; exact h3
  · by_cases e : v = b
    · rw [e, upd1_same]; exact Nat.le_refl _
    · rw [upd1_ne e]; have := s.clk v; omega
  · by_cases e : v = b
    · rw [e, upd1_same] at hn; cases hn
    · rw [upd1_ne e] at hn
      rw [updW_ne e, upd1_ne e]; exact s.root v hv hn
  · have mono : ∀ u, τ u ≤ upd1 τ b t u := fun u => by
      by_cases e : u = b
      · rw [e, upd1_same]; exact s.tle b
      · rw [upd1_ne e]; exact Nat.le_refl _
    by_cases e : v = b
    · subst e
      refine ⟨a, upd1_same, ?_⟩
      rw [upd1_same, upd1_ne hab]
      by_cases h0 : 1 ≤ pass a v
      · rcases s.seen a v ha hb h0 with z | z
        · grind
        · omega
      · omega
    · rw [upd1_ne e] at h1
      obtain ⟨u, h2, h3⟩ := s.back v hv h1
      exact ⟨u, by rw [upd1_ne e]; exact h2, by rw [upd1_ne e]; exact Nat.le_trans h3 (Nat.add_le_add_right (mono u) 1)⟩
  · by_cases e : v = b
    · rw [e, upd1_same]; exact Nat.le_refl _
    · rw [upd1_ne e]; exact s.tle v
  · rw [hp' u v hu hv] at h1 ⊢
    by_cases e : u = a ∧ v = b
    · obtain ⟨rfl, rfl⟩ := e
      left
      rw [sa, updW_same]; grind
    · rw [if_neg e] at h1 ⊢
      by_cases e2 : u = b
      · right
        rw [e2, upd1_same]
        have := hle b v hb hv
        rw [← e2] at this ⊢; exact this
      · rw [sne u v e2, upd1_ne e2]
        rcases s.seen u v hu hv h1 with z | z
        · left; have := wle v; grind
        · exact .inr z
theorem BF.keep (s : BF n c sc w par τ ts T t pass) (hp' : ∀ u v, u < n → v < n → pass' u v = if u = a ∧ v = b then t else pass u v) (hl : ¬ stp sc c w a b < w b) : BF n c sc w par τ ts T t pass' :=
  ⟨s.pos, s.le1, s.edge, s.clk, s.root, s.back, s.tle, fun u v hu hv h1 => by
    rw [hp' u v hu hv] at h1 ⊢
    by_cases e : u = a ∧ v = b
    · obtain ⟨rfl, rfl⟩ := e
      left; grind
    · rw [if_neg e] at h1 ⊢
      exact s.seen u v hu hv h1⟩
theorem BF.conv (s : BF n c sc w par τ ts T t pass) {t' : Nat} (ht : t ≤ t') (hp : ∀ u v, u < n → v < n → pass' u v = pass u v) : BF n c sc w par τ ts T t' pass' :=
  ⟨s.pos, s.le1, s.edge, s.clk, s.root, s.back, fun v => Nat.le_trans (s.tle v) ht, fun u v hu hv h1 => by rw [hp u v hu hv] at h1 ⊢; exact s.seen u v hu hv h1⟩
theorem BF.start : BF n c sc (fun _ => 1) (fun _ => none) (fun _ => 0) (fun _ => 0) 0 0 fun _ _ => 0 :=
  ⟨(fun _ _ _ => by decide), (fun _ _ => by grind), (fun _ _ _ h => nomatch h), (fun _ => Nat.le_refl _), (fun _ _ _ => ⟨rfl, rfl⟩), (fun _ _ h => by omega), (fun _ => Nat.le_refl _), (fun _ _ _ _ h => by omega)⟩
end
/-- steps of parents: p in the order in which steps lead -/
def ParSteps (par : Nat → Option Nat) (p : List Nat) : Prop := Steps (fun u v => par v = some u) p
def sumS (c : CF) : List Nat → Int
  | a :: b :: r => (c a b - c a a) + sumS c (b :: r)
  | _ => 0
def prodT (c : CF) : List Nat → Int
  | a :: b :: r => c a b * prodT c (b :: r)
  | _ => 1
def prodO (c : CF) : List Nat → Int
  | a :: b :: r => c a a * prodO c (b :: r)
  | _ => 1
section
variable {n : Nat} {c : CF} {w : WF} {par : Nat → Option Nat} {τ ts : Nat → Nat} {T t : Nat} {pass : Nat → Nat → Nat}
theorem prodT_pos (h : Cst n c) : ∀ {p : List Nat}, (∀ x ∈ p, x < n) → 0 < prodT c p
  | [], _ => by simp [prodT]
  | [_], _ => by simp [prodT]
  | a :: b :: r, hp => by
    simp only [prodT]
    exact Int.mul_pos (by have := h.lo a b (hp a (by simp)) (hp b (by simp)); omega) (prodT_pos h (p := b :: r) fun x hx => hp x (List.mem_cons_of_mem _ hx))
theorem prodO_pos (h : Cst n c) : ∀ {p : List Nat}, (∀ x ∈ p, x < n) → 0 < prodO c p
  | [], _ => by simp [prodO]
  | [_], _ => by simp [prodO]
  | a :: b :: r, hp => by
    simp only [prodO]
    exact Int.mul_pos (by have := h.lo a a (hp a (by simp)) (hp a (by simp)); omega) (prodO_pos h (p := b :: r) fun x hx => hp x (List.mem_cons_of_mem _ hx))
/-- even: the last one's worth is no less than the first one's and the steps' sum; not the same but by rising clocks -/
theorem even_way (s : BF n c false w par τ ts T t pass) : ∀ {p : List Nat} {a b : Nat}, (∀ x ∈ p, x < n) → ParSteps par p → p.head? = some a → p.getLast? = some b →
    w a + (sumS c p : Rat) < w b ∨ (w a + (sumS c p : Rat) = w b ∧ (p.length = 1 ∨ ts a < ts b))
  | [], _, _, _, _, h, _ => by simp at h
  | [x], a, b, _, _, h1, h2 => by
    simp at h1 h2; subst h1 h2
    right; refine ⟨?_, .inl rfl⟩; simp only [sumS]; grind
  | x :: y :: r, a, b, hp, st, h1, h2 => by
    simp at h1; subst h1
    have hx := hp x (by simp)
    have hy := hp y (by simp)
    have e := s.edge y x hy st.1
    have ih := even_way s (p := y :: r) (a := y) (b := b) (fun z hz => hp z (List.mem_cons_of_mem _ hz)) st.2 rfl (by simpa using h2)
    simp only [stp, Bool.false_eq_true, if_false] at e
    have hc : (sumS c (x :: y :: r) : Rat) = ((c x y - c x x : Int) : Rat) + (sumS c (y :: r) : Rat) := by simp only [sumS]; norm_cast
    rw [hc]
    obtain ⟨_, _, e⟩ := e
    rcases e with e | ⟨e, e'⟩
    · left; rcases ih with z | z <;> grind
    · rcases ih with z | ⟨z, z'⟩
      · left; grind
      · right
        refine ⟨by grind, .inr ?_⟩
        rcases z' with z' | z'
        · have : r = [] := by simpa using z'
          subst this
          simp at h2; subst h2; exact e'
        · omega
theorem scaled_way (h : Cst n c) (s : BF n c true w par τ ts T t pass) : ∀ {p : List Nat} {a b : Nat}, (∀ x ∈ p, x < n) → ParSteps par p → p.head? = some a → p.getLast? = some b →
    w a * (prodT c p : Rat) < w b * (prodO c p : Rat) ∨ (w a * (prodT c p : Rat) = w b * (prodO c p : Rat) ∧ (p.length = 1 ∨ ts a < ts b))
  | [], _, _, _, _, h, _ => by simp at h
  | [x], a, b, _, _, h1, h2 => by
    simp at h1 h2; subst h1 h2
    right; simp [prodT, prodO]
  | x :: y :: r, a, b, hp, st, h1, h2 => by
    simp at h1; subst h1
    have hx := hp x (by simp)
    have hy := hp y (by simp)
    have e := s.edge y x hy st.1
    have hp' : ∀ z ∈ y :: r, z < n := fun z hz => hp z (List.mem_cons_of_mem _ hz)
    have ih := scaled_way h s (p := y :: r) (a := y) (b := b) hp' st.2 rfl (by simpa using h2)
    simp only [stp, if_true] at e
    obtain ⟨_, _, e⟩ := e
    have cxx := qpos (h.lo x x hx hx)
    have pt : (0 : Rat) < (prodT c (y :: r) : Rat) := by exact_mod_cast prodT_pos h hp'
    have hT : (prodT c (x :: y :: r) : Rat) = (c x y : Rat) * (prodT c (y :: r) : Rat) := by simp only [prodT]; norm_cast
    have hO : (prodO c (x :: y :: r) : Rat) = (c x x : Rat) * (prodO c (y :: r) : Rat) := by simp only [prodO]; norm_cast
    have e' : (w x * (c x y : Rat) < w y * (c x x : Rat)) ∨ (w x * (c x y : Rat) = w y * (c x x : Rat) ∧ ts x < ts y) := by
      rcases e with e | ⟨e, e'⟩
      · left; rwa [Rat.div_lt_iff cxx] at e
      · right
        refine ⟨?_, e'⟩
        rw [← e, Rat.div_mul_cancel (by grind)]
    rw [hT, hO]
    have a1 : w x * ((c x y : Rat) * (prodT c (y :: r) : Rat)) = (w x * (c x y : Rat)) * (prodT c (y :: r) : Rat) := by grind
    have a2 : w b * ((c x x : Rat) * (prodO c (y :: r) : Rat)) = (c x x : Rat) * (w b * (prodO c (y :: r) : Rat)) := by grind
    have a3 : w y * (c x x : Rat) * (prodT c (y :: r) : Rat) = (c x x : Rat) * (w y * (prodT c (y :: r) : Rat)) := by grind
    rw [a1, a2]
    rcases e' with e | ⟨e, e'⟩
    · left
      have m1 := Rat.mul_lt_mul_of_pos_right e pt
      rw [a3] at m1
      rcases ih with z | ⟨z, _⟩
      · have := Rat.mul_lt_mul_of_pos_left z cxx; grind
      · rw [z] at m1; exact m1
    · rw [e, a3]
      rcases ih with z | ⟨z, z'⟩
      · left; exact Rat.mul_lt_mul_of_pos_left z cxx
      · right
        refine ⟨by rw [z], .inr ?_⟩
        rcases z' with z' | z'
        · have : r = [] := by simpa using z'
          subst this
          simp at h2; subst h2; exact e'
        · omega
end
end C
namespace C
open PySem PySem.Spec PyProof.Rows L2 M N B

inductive Kd where
  | any | even | scaled
def Kd.str : Kd → Str
  | .any => "any"
  | .even => "even"
  | .scaled => "scaled"
/-- the costs of a round's steps, the last one's to a -/
def clos (c : CF) (a : Nat) : List Nat → List Int
  | [] => []
  | [x] => [c x a]
  | x :: y :: r => c x y :: clos c a (y :: r)
def owns (c : CF) (p : List Nat) : List Int := p.map fun x => c x x
def lprod : List Int → Int
  | [] => 1
  | x :: r => x * lprod r
def steps (c : CF) (p : List Nat) : List Int := clos c (p.headD 0) p
structure IsRnd (n : Nat) (p : List Nat) : Prop where
  len : 2 ≤ p.length
  nd : p.Nodup
  lt : ∀ x ∈ p, x < n
def LeAll : List Int → List Int → Prop
  | x :: xs, y :: ys => x ≤ y ∧ LeAll xs ys
  | _, _ => True
def Bars (k : Kd) (c : CF) (p : List Nat) : Prop := match k with
  | .any => LeAll (steps c p) (owns c p) ∧ steps c p ≠ owns c p
  | .even => (steps c p).sum < (owns c p).sum
  | .scaled => lprod (steps c p) < lprod (owns c p)
def Exp (n : Nat) (c : CF) (w l : WF) : Prop := ∀ i, i < n → 0 < l i ∧ ∀ j, j < n → w j ≤ w i + l i * ((c i j - c i i : Int) : Rat)
def KOk (k : Kd) (n : Nat) (c : CF) (w l : WF) : Prop := match k with
  | .any => True
  | .even => ∀ i, i < n → l i = 1
  | .scaled => ∀ i, i < n → 0 < w i ∧ w i = l i * (c i i : Rat)
def HasW (k : Kd) (n : Nat) (c : CF) : Prop := ∃ w l, Exp n c w l ∧ KOk k n c w l
theorem clos_sum (c : CF) (a : Nat) : ∀ {p : List Nat} {b : Nat}, p.getLast? = some b → (clos c a p).sum - (owns c p).sum = sumS c p + (c b a - c b b)
  | [], _, h => by simp at h
  | [x], b, h => by simp at h; subst h; simp [clos, owns, sumS]
  | x :: y :: r, b, h => by
    have := clos_sum c a (p := y :: r) (b := b) (by simpa using h)
    simp only [clos, owns, sumS, List.map_cons, List.sum_cons] at this ⊢
    omega
theorem clos_prod (c : CF) (a : Nat) : ∀ {p : List Nat} {b : Nat}, p.getLast? = some b → lprod (clos c a p) = prodT c p * c b a
  | [], _, h => by simp at h
  | [x], b, h => by simp at h; subst h; simp [clos, lprod, prodT]
  | x :: y :: r, b, h => by
    have := clos_prod c a (p := y :: r) (b := b) (by simpa using h)
    simp only [clos, lprod, prodT, this, Int.mul_assoc]
theorem owns_prod (c : CF) : ∀ {p : List Nat} {b : Nat}, p.getLast? = some b → lprod (owns c p) = prodO c p * c b b
  | [], _, h => by simp at h
  | [x], b, h => by simp at h; subst h; simp [owns, lprod, prodO]
  | x :: y :: r, b, h => by
    have := owns_prod c (p := y :: r) (b := b) (by simpa using h)
    simp only [owns, List.map_cons, lprod, prodO] at this ⊢
    rw [this, Int.mul_assoc]
section
variable {n : Nat} {c : CF} {w : WF} {par : Nat → Option Nat} {τ ts : Nat → Nat} {T t : Nat} {pass : Nat → Nat → Nat}
theorem par_bars (h : Cst n c) {sc : Bool} (s : BF n c sc w par τ ts T t pass) {p : List Nat} {a b : Nat} (hp : ∀ x ∈ p, x < n) (st : ParSteps par p) (h1 : p.head? = some a) (h2 : p.getLast? = some b) (hc : par a = some b) : Bars (if sc then .scaled else .even) c p := by
  have ha : a < n := hp a (List.mem_of_head? h1)
  have hb : b < n := hp b (List.mem_of_getLast? h2)
  have hd : p.headD 0 = a := by rw [List.headD_eq_head?_getD, h1]; rfl
  obtain ⟨_, hne, e⟩ := s.edge a b ha hc
  have one : p.length = 1 → False := by
    intro z
    match p, z with
    | [x], _ => simp at h1 h2; exact hne (h2.symm.trans h1)
  cases sc with
  | false =>
    simp only [Bool.false_eq_true, if_false, Bars, steps, hd]
    have hs := clos_sum c a h2
    have hw := even_way s hp st h1 h2
    simp only [stp, Bool.false_eq_true, if_false] at e
    have : (sumS c p : Rat) + ((c b a - c b b : Int) : Rat) < 0 := by
      rcases hw with z | ⟨z, z'⟩
      · rcases e with e | ⟨e, _⟩ <;> grind
      · rcases e with e | ⟨e, e'⟩
        · grind
        · rcases z' with z' | z'
          · exact absurd z' one
          · omega
    have : sumS c p + (c b a - c b b) < 0 := by exact_mod_cast this
    omega
  | true =>
    simp only [if_true, Bars, steps, hd]
    rw [clos_prod c a h2, owns_prod c h2]
    have hw := scaled_way h s hp st h1 h2
    simp only [stp, if_true] at e
    have cbb := qpos (h.lo b b hb hb)
    have cba := qpos (h.lo b a hb ha)
    have wa := s.pos rfl a ha
    have wb := s.pos rfl b hb
    have pO : (0 : Rat) < (prodO c p : Rat) := by exact_mod_cast prodO_pos h hp
    have e' : (w b * (c b a : Rat) < w a * (c b b : Rat)) ∨ (w b * (c b a : Rat) = w a * (c b b : Rat) ∧ ts b < ts a) := by
      rcases e with e | ⟨e, e'⟩
      · left; rwa [Rat.div_lt_iff cbb] at e
      · right; exact ⟨by rw [← e, Rat.div_mul_cancel (by grind)], e'⟩
    have key : w a * ((prodT c p : Rat) * (c b a : Rat)) < w a * ((prodO c p : Rat) * (c b b : Rat)) := by
      have a1 : w a * ((prodT c p : Rat) * (c b a : Rat)) = (w a * (prodT c p : Rat)) * (c b a : Rat) := by grind
      have a2 : w b * (prodO c p : Rat) * (c b a : Rat) = (prodO c p : Rat) * (w b * (c b a : Rat)) := by grind
      have a3 : w a * ((prodO c p : Rat) * (c b b : Rat)) = (prodO c p : Rat) * (w a * (c b b : Rat)) := by grind
      rw [a1, a3]
      rcases hw with z | ⟨z, z'⟩
      · have m1 := Rat.mul_lt_mul_of_pos_right z cba
        rw [a2] at m1
        rcases e' with e | ⟨e, _⟩
        · have := Rat.mul_lt_mul_of_pos_left e pO; grind
        · rw [e] at m1; exact m1
      · rw [z, a2]
        rcases e' with e | ⟨e, e'⟩
        · exact Rat.mul_lt_mul_of_pos_left e pO
        · rcases z' with z' | z'
          · exact absurd z' one
          · omega
    have := (Rat.mul_lt_mul_left wa).mp key
    exact_mod_cast this
def goBack (par : Nat → Option Nat) : Nat → Nat → Option Nat
  | 0, v => some v
  | k + 1, v => (goBack par k v).bind par
theorem back_def (s : BF n c sc w par τ ts T t pass) {v : Nat} (hv : v < n) : ∀ k, k ≤ τ v → ∃ u, goBack par k v = some u ∧ u < n ∧ τ v ≤ τ u + k
  | 0, _ => ⟨v, rfl, hv, by omega⟩
  | k + 1, hk => by
    obtain ⟨u, h1, h2, h3⟩ := back_def s hv k (by omega)
    obtain ⟨x, h4, h5⟩ := s.back u h2 (by omega)
    exact ⟨x, by simp only [goBack, h1, Option.bind_some, h4], (s.edge u x h2 h4).1, by omega⟩
theorem goBack_add (par : Nat → Option Nat) (k v : Nat) : ∀ m, goBack par (k + m) v = (goBack par k v).bind fun u => goBack par m u
  | 0 => by simp [goBack]
  | m + 1 => by
    rw [← Nat.add_assoc]
    simp only [goBack, goBack_add par k v m]
    cases goBack par k v <;> rfl
/-- one that is met again -/
theorem pigeon {n : Nat} {f : Nat → Nat} (hf : ∀ k, k ≤ n → f k < n) : ∃ i j, i < j ∧ j ≤ n ∧ f i = f j := by
  refine Classical.byContradiction fun hno => ?_
  have inj : ∀ i j, i ≤ n → j ≤ n → f i = f j → i = j := by
    intro i j hi hj e
    rcases Nat.lt_trichotomy i j with z | z | z
    · exact absurd ⟨i, j, z, hj, e⟩ hno
    · exact z
    · exact absurd ⟨j, i, z, hi, e.symm⟩ hno
  have nd : ((List.range (n + 1)).map f).Nodup := by
    rw [List.nodup_iff_pairwise_ne, List.pairwise_map]
    refine List.Pairwise.imp_of_mem ?_ (List.nodup_range (n := n + 1))
    intro a b ha hb hab e
    have ha := List.mem_range.mp ha
    have hb := List.mem_range.mp hb
    exact hab (inj a b (by omega) (by omega) e)
  have := nodup_le nd (m := List.range n) fun x hx => by
    obtain ⟨k, hk, rfl⟩ := List.mem_map.mp hx
    have := List.mem_range.mp hk
    exact List.mem_range.mpr (hf k (by omega))
  simp at this
  omega
/-- n steps back one is on a round of parents -/
theorem on_round (s : BF n c sc w par τ ts T t pass) {v : Nat} (hv : v < n) (hn : n ≤ τ v) : ∃ u m, goBack par n v = some u ∧ u < n ∧ 1 ≤ m ∧ m ≤ n ∧ goBack par m u = some u ∧ ∀ k, ∃ x, goBack par k u = some x ∧ x < n := by
  have hd : ∀ k, k ≤ n → ∃ x, goBack par k v = some x ∧ x < n := fun k hk => by
    obtain ⟨x, h1, h2, _⟩ := back_def s hv k (by omega)
    exact ⟨x, h1, h2⟩
  obtain ⟨i, j, hij, hjn, e⟩ := pigeon (n := n) (f := fun k => (goBack par k v).getD 0) (fun k hk => by
    obtain ⟨x, h1, h2⟩ := hd k hk
    simp only [h1, Option.getD_some]; exact h2)
  obtain ⟨x, hx, hxn⟩ := hd i (by omega)
  obtain ⟨y, hy, _⟩ := hd j hjn
  simp only [hx, hy, Option.getD_some] at e
  subst e
  -- from x, j - i steps lead to x again
  have cyc : goBack par (j - i) x = some x := by
    have := goBack_add par i v (j - i)
    rw [show i + (j - i) = j by omega, hx, hy] at this
    exact this.symm
  obtain ⟨u, hu, hun⟩ := hd n (Nat.le_refl _)
  have hux : goBack par (n - i) x = some u := by
    have := goBack_add par i v (n - i)
    rw [show i + (n - i) = n by omega, hx, hu] at this
    exact this.symm
  have cycu : goBack par (j - i) u = some u := by
    have h1 := goBack_add par (j - i) x (n - i)
    rw [cyc] at h1
    have h2 := goBack_add par (n - i) x (j - i)
    rw [hux] at h2
    simp only [Option.bind_some] at h1 h2
    rw [← h2, show n - i + (j - i) = j - i + (n - i) by omega, h1, hux]
  have inb : ∀ k y, goBack par k u = some y → y < n := by
    intro k
    induction k with
    | zero => intro y hy; cases hy; exact hun
    | succ k ih =>
      intro y hy
      simp only [goBack, Option.bind_eq_some_iff] at hy
      obtain ⟨z, hz, hy⟩ := hy
      exact (s.edge z y (ih z hz) hy).1
  have mul : ∀ q, goBack par (q * (j - i)) u = some u := by
    intro q
    induction q with
    | zero => simp [goBack]
    | succ q ih => rw [Nat.succ_mul, goBack_add, ih]; exact cycu
  refine ⟨u, j - i, hu, hun, by omega, by omega, cycu, fun k => ?_⟩
  -- defined: a multiple of the round is defined
  have hk := goBack_add par k u (k * (j - i) - k)
  have hle : k ≤ k * (j - i) := Nat.le_mul_of_pos_right k (by omega)
  rw [show k + (k * (j - i) - k) = k * (j - i) by omega, mul k] at hk
  cases e : goBack par k u with
  | none => rw [e] at hk; cases hk
  | some x => exact ⟨x, rfl, inb k x e⟩
end
end C
namespace C
open PySem PySem.Spec PyProof.Rows L2 M N B

theorem whl_iter {S : Type} {cnd : S → Option Bool} {step : S → Option S} (f : Nat → S) (m : Nat) (hc : ∀ k, k < m → cnd (f k) = some true) (hs : ∀ k, k < m → step (f k) = some (f (k + 1))) (he : cnd (f m) = some false) : ∀ fuel, m < fuel → whl cnd step fuel (f 0) = some (f m) := by
  have key : ∀ j fuel, j ≤ m → m - j < fuel → whl cnd step fuel (f j) = some (f m) := by
    intro j fuel
    induction fuel generalizing j with
    | zero => intro _ h; omega
    | succ fuel ih =>
      intro hj hf
      by_cases e : j = m
      · subst e; simp only [whl, he, c_xif_f]
      · have hlt : j < m := by omega
        simp only [whl, hc j hlt, c_xif_t, hs j hlt, Option.bind_some]
        exact ih (j + 1) (by omega) (by omega)
  intro fuel hf
  exact key 0 fuel (by omega) (by omega)
theorem ix_head {d : D} {r : List D} : op2 idxT (.list (d :: r)) (.int 0) = some d := by
  rw [c_ixl, atI_lt (by omega) (by simp)]; rfl
@[simp] theorem c_xdgetD {x : List (Key × D)} {q : Option D} : xdgetD (some (dD x)) q = xdget x q := by simp [xdgetD, dct_dD]
@[simp] theorem c_xdget {x : List (Key × D)} {i : Int} : xdget x (some (.int i)) = valD x (.inl i) := rfl
section
variable {n : Nat} {c : CF} {sc : Bool} {w : WF} {par : Nat → Option Nat} {τ ts : Nat → Nat} {T t : Nat} {pass : Nat → Nat → Nat}
def enPar (par : Nat → Option Nat) (v : Nat) : Option D := (par v).map fun u => .int (u : Int)
theorem round_back (h : Cst n c) (s : BF n c sc w par τ ts T t pass) {b : List (Key × D)} (hb : Dk n b (enPar par)) {v : Nat} (hv : v < n) (hn : n ≤ τ v) :
    ∃ p a u, P.round_back (dD b) (.int (v : Int)) (.int (n : Int)) = some (.list (enI (natI p))) ∧ IsRnd n p ∧ ParSteps par p ∧ p.head? = some a ∧ p.getLast? = some u ∧ par a = some u := by
  obtain ⟨u, m0, hu, hun, hm1, hmn, hm, hall⟩ := on_round s hv hn
  have n13 := h.n13
  -- the least number of steps
  obtain ⟨m, hm1, hmle, hmu, hmin⟩ : ∃ m, 1 ≤ m ∧ m ≤ n ∧ goBack par m u = some u ∧ ∀ k, 1 ≤ k → k < m → goBack par k u ≠ some u := by
    have : ∀ k, (∃ m, 1 ≤ m ∧ m ≤ k ∧ goBack par m u = some u) → ∃ m, 1 ≤ m ∧ m ≤ k ∧ goBack par m u = some u ∧ ∀ i, 1 ≤ i → i < m → goBack par i u ≠ some u := by
      intro k
      induction k with
      | zero => rintro ⟨m, h1, h2, _⟩; omega
      | succ k ih =>
        rintro ⟨m, h1, h2, h3⟩
        by_cases hex : ∃ m, 1 ≤ m ∧ m ≤ k ∧ goBack par m u = some u
        · obtain ⟨m', a1, a2, a3, a4⟩ := ih hex
          exact ⟨m', a1, by omega, a3, a4⟩
        · have : m = k + 1 := by
            by_cases z : m ≤ k
            · exact absurd ⟨m, h1, z, h3⟩ hex
            · omega
          exact ⟨m, h1, h2, h3, fun i i1 i2 z => hex ⟨i, i1, by omega, z⟩⟩
    exact this n ⟨m0, hm1, hmn, hm⟩
  let g : Nat → Nat := fun k => (goBack par k u).getD 0
  have hg : ∀ k, goBack par k u = some (g k) ∧ g k < n := fun k => by
    obtain ⟨x, h1, h2⟩ := hall k
    have : g k = x := by show (goBack par k u).getD 0 = x; rw [h1]; rfl
    rw [this]; exact ⟨h1, h2⟩
  have g0 : g 0 = u := rfl
  have gm : g m = u := by have := (hg m).1; rw [hmu] at this; exact (Option.some.inj this).symm
  have hpar : ∀ k, par (g k) = some (g (k + 1)) := fun k => by
    have := (hg (k + 1)).1
    simp only [goBack, (hg k).1, Option.bind_some] at this
    exact this
  let q : Nat → List Nat := fun k => (List.range k).reverse.map g
  have qs : ∀ k, q (k + 1) = g k :: q k := fun k => by
    show (List.range (k + 1)).reverse.map g = g k :: (List.range k).reverse.map g
    rw [List.range_succ, List.reverse_append]; rfl
  have qlen : ∀ k, (q k).length = k := fun k => by show ((List.range k).reverse.map g).length = k; simp
  have m2 : 2 ≤ m := by
    by_cases z : m = 1
    · subst z
      have e := hpar 0
      rw [gm, g0] at e
      exact absurd rfl (s.edge u u hun e).2.1
    · omega
  have hst : ∀ k, ParSteps par (q (k + 1)) := by
    intro k
    induction k with
    | zero => rw [qs]; exact trivial
    | succ k ih =>
      rw [qs, qs]
      rw [qs] at ih
      exact ⟨hpar k, ih⟩
  have hdist : ∀ i j, i < j → j < m → g i ≠ g j := by
    intro i j hij hj e
    have e1 := goBack_add par j u (m - j)
    rw [show j + (m - j) = m by omega, hmu, (hg j).1] at e1
    have e2 := goBack_add par i u (m - j)
    rw [(hg i).1] at e2
    simp only [Option.bind_some] at e1 e2
    rw [e, ← e1] at e2
    exact hmin (i + (m - j)) (by omega) (by omega) e2
  have hnd : (q m).Nodup := by
    show ((List.range m).reverse.map g).Nodup
    rw [List.nodup_iff_pairwise_ne, List.pairwise_map]
    refine List.Pairwise.imp_of_mem ?_ (List.pairwise_reverse.mpr ((List.nodup_range (n := m)).imp fun h => h.symm))
    intro a b ha hb hab e
    have ha : a < m := by simpa using ha
    have hb : b < m := by simpa using hb
    rcases Nat.lt_trichotomy a b with z | z | z
    · exact hdist a b z hb e
    · exact hab z
    · exact hdist b a z ha e.symm
  have qlast : (q m).getLast? = some u := by
    show ((List.range m).reverse.map g).getLast? = some u
    rw [List.getLast?_map, List.getLast?_reverse, List.head?_range]
    rw [if_neg (by omega)]; rfl
  have qhead : (q m).head? = some (g (m - 1)) := by
    have := qs (m - 1)
    rw [show m - 1 + 1 = m by omega] at this
    rw [this]; rfl
  refine ⟨q m, g (m - 1), u, ?_, ⟨by rw [qlen]; exact m2, hnd, fun x hx => ?_⟩, ?_, qhead, qlast, ?_⟩
  · unfold P.round_back
    have hsm : smallI (n : Int) := small_of (by omega) (by omega)
    simp only [Option.bind_some, c_irng1, hsm, if_true]
    obtain ⟨s1, h1, h2⟩ := fold_range (step := fun s d => P.round_back_L1 (dD b) s d) (fun k x => ∃ y : Nat, x = .int (y : Int) ∧ goBack par k v = some y ∧ y < n) n (.int (v : Int)) ⟨v, rfl, rfl, hv⟩ (by
      rintro i x hi ⟨y, rfl, hy, hyn⟩
      obtain ⟨z, hz, hzn⟩ : ∃ z, goBack par (i + 1) v = some z ∧ z < n := by
        obtain ⟨z, a1, a2, _⟩ := back_def s hv (i + 1) (by omega)
        exact ⟨z, a1, a2⟩
      have hpz : par y = some z := by simpa [goBack, hy] using hz
      refine ⟨.int (z : Int), ?_, z, rfl, hz, hzn⟩
      unfold P.round_back_L1
      simp [hb.val, enPar, hpz])
    obtain ⟨y, rfl, hy, _⟩ := h2
    rw [hu] at hy
    cases hy
    simp only [h1, Option.bind_some, c_xseq1, c_xseq0, Option.map_some]
    have hw := whl_iter (cnd := fun s => P.round_back_C2 (dD b) (.int (u : Int)) s) (step := fun s => P.round_back_L2 (dD b) s) (fun k => enI (natI (q (k + 1)))) (m - 1) (by
        intro k hk
        unfold P.round_back_C2
        have e0 : op2 idxT (.list (enI (natI (q (k + 1))))) (.int 0) = some (.int (g k : Int)) := by rw [qs]; exact ix_head
        have hne : g (k + 1) ≠ u := fun z => hmin (k + 1) (by omega) (by omega) (by rw [(hg (k + 1)).1, z])
        simp [e0, hb.val, enPar, hpar k]
        omega) (by
        intro k hk
        unfold P.round_back_L2
        have e0 : op2 idxT (.list (enI (natI (q (k + 1))))) (.int 0) = some (.int (g k : Int)) := by rw [qs]; exact ix_head
        have hl : (enI (natI (q (k + 1)))).length < LIM := by simp [enI, natI, qlen, LIM]; omega
        simp [e0, hb.val, enPar, hpar k, insL, hl]
        rw [qs (k + 1)]; rfl) (by
        unfold P.round_back_C2
        have e0 : op2 idxT (.list (enI (natI (q (m - 1 + 1))))) (.int 0) = some (.int (g (m - 1) : Int)) := by rw [qs]; exact ix_head
        have e1 := hpar (m - 1)
        rw [show m - 1 + 1 = m by omega, gm] at e1
        simp [e0, hb.val, enPar, e1]) FUEL (by unfold FUEL; omega)
    have q1 : enI (natI (q (0 + 1))) = [.int (u : Int)] := by rw [qs]; rfl
    rw [q1, show m - 1 + 1 = m by omega] at hw
    simp [hw]
  · have : x ∈ (List.range m).reverse.map g := hx
    obtain ⟨k, _, rfl⟩ := List.mem_map.mp this
    exact (hg k).2
  · have := hst (m - 1)
    rwa [show m - 1 + 1 = m by omega] at this
  · have := hpar (m - 1)
    rwa [show m - 1 + 1 = m by omega, gm] at this
end
end C
set_option exponentiation.threshold 100
namespace C
open PySem PySem.Spec PyProof.Rows L2 M N B

theorem eqs {a b : Str} (ha : PyData.strOk a = true) (hb : PyData.strOk b = true) : op2 M.eqT (.str a) (.str b) = some (.bool (a == b)) := by
  rw [op_eq (n := 0) (show Pln 0 (.str a) from ha) (show Pln 0 (.str b) from hb)]
  simp [PyData.eqv]
def kstr (sc : Bool) : Str := if sc then "scaled" else "even"
theorem kstr_even (sc : Bool) : op2 M.eqT (.str (kstr sc)) (.str "even") = some (.bool !sc) := by
  cases sc
  · rw [eqs (by decide +kernel) (by decide +kernel)]; rfl
  · rw [eqs (by decide +kernel) (by decide +kernel)]; rfl
theorem kstr_scaled (sc : Bool) : op2 M.eqT (.str (kstr sc)) (.str "scaled") = some (.bool sc) := by
  cases sc
  · rw [eqs (by decide +kernel) (by decide +kernel)]; rfl
  · rw [eqs (by decide +kernel) (by decide +kernel)]; rfl
theorem kstr_any (sc : Bool) : op2 M.eqT (.str (kstr sc)) (.str "any") = some (.bool false) := by
  cases sc
  · rw [eqs (by decide +kernel) (by decide +kernel)]; rfl
  · rw [eqs (by decide +kernel) (by decide +kernel)]; rfl
/-- sizes: by the count of steps -/
def SzB (sc : Bool) (K : Nat) (q : Rat) : Prop := if sc then SzQ (43 * K + 1) q else ∃ k : Int, q = (k : Rat) ∧ k ≤ 1 ∧ 1 - (K : Int) * 6000000000000 ≤ k
section
variable {n : Nat} {c : CF} {sc : Bool} {w : WF} {a b K : Nat}
theorem SzB.mono {K' : Nat} {q : Rat} (h : SzB sc K q) (hk : K ≤ K') : SzB sc K' q := by
  unfold SzB at h ⊢
  cases sc with
  | true => simp only [if_true] at h ⊢; exact h.mono (by omega)
  | false =>
    simp only [Bool.false_eq_true, if_false] at h ⊢
    obtain ⟨k, h1, h2, h3⟩ := h
    exact ⟨k, h1, h2, by omega⟩
theorem szB_one : SzB sc K 1 := by
  unfold SzB
  cases sc with
  | true => simp only [if_true]; exact szq_one (by omega)
  | false => simp only [Bool.false_eq_true, if_false]; exact ⟨1, rfl, by omega, by omega⟩
theorem szB_stp (h : Cst n c) (ha : a < n) (hb : b < n) (hs : SzB sc K (w a)) (h1 : stp sc c w a b ≤ 1) : SzB sc (K + 1) (stp sc c w a b) := by
  unfold SzB at hs ⊢
  unfold stp at h1 ⊢
  cases sc with
  | true =>
    simp only [if_true] at hs ⊢
    -- the product and the quotient each by 43 bits
    have e : w a * (c a b : Rat) / (c a a : Rat) = Rat.divInt ((w a).num * c a b) ((w a).den * c a a) := by
      conv => lhs; rw [q_eq (w a), ← divInt_1 (c a b), ← divInt_1 (c a a), Rat.div_def, Rat.inv_divInt, Rat.divInt_mul_divInt, Rat.divInt_mul_divInt]
      simp
    rw [e]
    have caa := h.lo a a ha ha
    have := szq_divInt (k := 43 * K + 1 + 43) (Int.mul_ne_zero (den_ne (w a)) (by omega : c a a ≠ 0)) (hs.1.mul (sz_cost h ha hb)) (hs.2.mul (sz_cost h ha ha))
    exact this.mono (by omega)
  | false =>
    simp only [Bool.false_eq_true, if_false] at hs h1 ⊢
    obtain ⟨k, e, k1, k2⟩ := hs
    refine ⟨k + (c a b - c a a), by rw [e]; norm_cast, ?_, ?_⟩
    · rw [e] at h1
      have : ((k + (c a b - c a a) : Int) : Rat) ≤ ((1 : Int) : Rat) := by push_cast at h1 ⊢; exact h1
      exact_mod_cast this
    · have := h.lo a b ha hb
      have := h.hi a a ha ha
      omega
theorem szB_q (hs : SzB sc K (w a)) (hK : K ≤ 170) : SzQ 7400 (w a) := by
  unfold SzB at hs
  cases sc with
  | true => simp only [if_true] at hs; exact hs.mono (by omega)
  | false =>
    simp only [Bool.false_eq_true, if_false] at hs
    obtain ⟨k, e, k1, k2⟩ := hs
    rw [e]
    refine (szq_ofInt (k := 60) ?_ (by decide)).mono (by decide)
    exact sz_int (M := 1020000000000001) (by omega) (by decide)
theorem p_step (h : Cst n c) (ha : a < n) (hb : b < n) (hs : SzB sc K (w a)) (hK : K ≤ 169) : P.step_worth (.str (kstr sc)) (enCm n c) (wl n w) (.int (a : Int)) (.int (b : Int)) = some (enQ (stp sc c w a b), wl n w) ∧ SzQ 100000 (stp sc c w a b) := by
  have caa := h.lo a a ha ha
  have cab := h.lo a b ha hb
  have caa' := h.hi a a ha ha
  have cab' := h.hi a b ha hb
  have q7 := szB_q (w := w) (a := a) hs (by omega)
  unfold P.step_worth
  cases sc with
  | true =>
    have t1 := p_times (q7.mono (by decide)) ((sz_cost h ha hb).mono (by decide))
    have s1 := szq_mulI q7 (sz_cost h ha hb)
    have o1 := p_over (k := c a a) (by omega) (s1.mono (by decide)) ((sz_cost h ha ha).mono (by decide))
    refine ⟨?_, ?_⟩
    · simp [kstr_even, ix_Cm ha, ix_rowC hb, ix_rowC ha, ix_wl ha, t1, o1, stp]
    · unfold stp; simp only [if_true]
      exact (szq_divI (by omega) s1 (sz_cost h ha ha)).mono (by decide)
  | false =>
    have q4 : SzQ 4400 (w a) := by
      unfold SzB at hs
      simp only [Bool.false_eq_true, if_false] at hs
      obtain ⟨k, e, k1, k2⟩ := hs
      rw [e]
      refine (szq_ofInt (k := 60) ?_ (by decide)).mono (by decide)
      exact sz_int (M := 1020000000000001) (by omega) (by decide)
    have sd : Sz 60 (c a b - c a a) := sz_int (M := 6000000000000) (by omega) (by decide)
    have qd : SzQ 60 ((c a b - c a a : Int) : Rat) := szq_ofInt sd (by decide)
    have e1 : PyData.tuple [.int (c a b - c a a), .int 1] = enQ ((c a b - c a a : Int) : Rat) := rfl
    have p1 := p_plus q4 (qd.mono (by decide))
    rw [Rat.intCast_sub] at p1 e1
    refine ⟨?_, ?_⟩
    · simp [kstr_even, ix_Cm ha, ix_rowC hb, ix_rowC ha, ix_wl ha, e1, p1, stp]
    · unfold stp; simp only [Bool.false_eq_true, if_false]
      exact (szq_add q4 qd).mono (by decide)
end
end C
set_option exponentiation.threshold 100
namespace C
open PySem PySem.Spec PyProof.Rows L2 M N B

def psd (t a b u v : Nat) : Nat := if u < a ∨ (u = a ∧ v < b) then t else t - 1
abbrev LS := List D × List (Key × D) × D
/-- turn t, at the pair (a, b) -/
def LInv (n : Nat) (c : CF) (sc : Bool) (t a b : Nat) (s : LS) : Prop := ∃ w par τ ts T, s.1 = wl n w ∧ Dk n s.2.1 (enPar par) ∧ BF n c sc w par τ ts T t (psd t a b) ∧ (∀ v, v < n → SzB sc ((t - 1) * n + a + (if b = 0 then 0 else 1)) (w v)) ∧ (a < n → SzB sc ((t - 1) * n + a) (w a)) ∧
  ((s.2.2 = .none ∧ ∀ u v, u < n → v < n → (u < a ∨ (u = a ∧ v < b)) → w v ≤ stp sc c w u v) ∨ ∃ l, l < n ∧ s.2.2 = .int (l : Int) ∧ τ l = t)
@[simp] theorem c_xpair {α β : Type} {a : α} {b : β} : xpair (some a) (some b) = some (a, b) := rfl
theorem low_turn {n : Nat} {c : CF} {sc : Bool} {t a b : Nat} (h : Cst n c) (ht : 1 ≤ t) (htn : t ≤ n) (ha : a < n) (hb : b < n) {s : LS} (hi : LInv n c sc t a b s) : ∃ s', P.lowered_L1 (.str (kstr sc)) (enCm n c) (.int (a : Int)) s.1 s.2.1 s.2.2 (.int (b : Int)) = some s' ∧ LInv n c sc t a (b + 1) s' := by
  obtain ⟨w, par, τ, ts, T, e1, hd, bf, z1, z2, hl⟩ := hi
  obtain ⟨s1, s2, s3⟩ := s
  simp only at e1 hd hl
  subst e1
  have n13 := h.n13
  have hK : (t - 1) * n + a ≤ 169 := by
    have h1 : (t - 1) * n ≤ 12 * 13 := Nat.mul_le_mul (by omega) n13
    omega
  have sa := z2 ha
  obtain ⟨ps, psz⟩ := p_step h ha hb sa hK
  have sb : SzQ 100000 (w b) := (szB_q (w := w) (a := b) (z1 b hb) (by split <;> omega)).mono (by decide)
  have hless := p_isless psz sb
  have hp : psd t a b a b + 1 = t := by unfold psd; rw [if_neg (by omega)]; omega
  have hp' : ∀ u v, u < n → v < n → psd t a (b + 1) u v = if u = a ∧ v = b then t else psd t a b u v := fun u v _ _ => by
    unfold psd
    by_cases e : u = a ∧ v = b
    · rw [if_pos (by omega), if_pos e]
    · rw [if_neg e]
      by_cases e2 : u < a ∨ (u = a ∧ v < b)
      · rw [if_pos (by omega), if_pos e2]
      · rw [if_neg (by omega), if_neg e2]
  unfold P.lowered_L1
  by_cases hlt : stp sc c w a b < w b
  · obtain ⟨hab, bf'⟩ := bf.low h ha hb hp hp' (fun u v _ _ => by unfold psd; split <;> omega) hlt
    obtain ⟨b', hput, hd'⟩ := hd.put hb (by omega) (.int (a : Int))
    refine ⟨(wl n (updW w b (stp sc c w a b)), b', .int (b : Int)), ?_, _, _, _, _, _, rfl, ?_, bf', fun v hv => ?_, fun _ => ?_, .inr ⟨b, hb, rfl, upd1_same⟩⟩
    · simp [ps, at_wl hb, hless, hlt, set_wl hb, hput]
    · have : (fun i => if i = b then some (PyData.int (a : Int)) else enPar par i) = enPar (upd1 par b (some a)) := by
        funext i
        unfold enPar upd1
        split <;> rfl
      rwa [this] at hd'
    · by_cases e : v = b
      · rw [e, updW_same]
        have h1 := bf.le1 b hb
        exact (szB_stp h ha hb sa (by grind)).mono (by simp)
      · rw [updW_ne e]; exact (z1 v hv).mono (by simp; split <;> omega)
    · rw [updW_ne hab]; exact sa
  · refine ⟨(wl n w, s2, s3), ?_, w, par, τ, ts, T, rfl, hd, bf.keep hp' hlt, fun v hv => (z1 v hv).mono (by simp; split <;> omega), z2, ?_⟩
    · simp [ps, at_wl hb, hless, hlt]
    · rcases hl with ⟨e, hl⟩ | hl
      · left
        refine ⟨e, fun u v hu hv hh => ?_⟩
        by_cases e2 : u = a ∧ v = b
        · obtain ⟨rfl, rfl⟩ := e2
          grind
        · exact hl u v hu hv (by omega)
      · exact .inr hl
theorem low_row {n : Nat} {c : CF} {sc : Bool} {t a : Nat} (h : Cst n c) (ht : 1 ≤ t) (htn : t ≤ n) (ha : a < n) {s : LS} (hi : LInv n c sc t a 0 s) : ∃ s', P.lowered_L2 (enCm n c) (.str (kstr sc)) s.1 s.2.1 s.2.2 (.int (a : Int)) = some s' ∧ LInv n c sc t (a + 1) 0 s' := by
  have n13 := h.n13
  have hsm : smallI (n : Int) := small_of (by omega) (by omega)
  obtain ⟨s', h1, h2⟩ := fold_range (step := fun s d => P.lowered_L1 (.str (kstr sc)) (enCm n c) (.int (a : Int)) s.1 s.2.1 s.2.2 d) (fun b s => LInv n c sc t a b s) n s hi (fun b s hb hs => low_turn h ht htn ha hb hs)
  refine ⟨s', ?_, ?_⟩
  · unfold P.lowered_L2
    simp [hsm, h1]
  · obtain ⟨w, par, τ, ts, T, e1, hd, bf, z1, z2, hl⟩ := h2
    have e : ∀ u v, u < n → v < n → ((u < a ∨ (u = a ∧ v < n)) ↔ (u < a + 1 ∨ (u = a + 1 ∧ v < 0))) := fun u v _ _ => by omega
    refine ⟨w, par, τ, ts, T, e1, hd, bf.conv (Nat.le_refl _) fun u v hu hv => ?_, fun v hv => (z1 v hv).mono (by have := h.n1; rw [if_neg (by omega), if_pos rfl]; omega), fun _ => ?_, ?_⟩
    · unfold psd; simp only [e u v hu hv]
    · by_cases hz : a + 1 < n
      · exact (z1 (a + 1) hz).mono (by rw [if_neg (by omega)]; omega)
      · omega
    · rcases hl with ⟨e0, hl⟩ | hl
      · exact .inl ⟨e0, fun u v hu hv hh => hl u v hu hv ((e u v hu hv).mpr hh)⟩
      · exact .inr hl
/-- between turns -/
def TInv (n : Nat) (c : CF) (sc : Bool) (t : Nat) (ws : List D) (bd : List (Key × D)) (w : WF) (par : Nat → Option Nat) (τ ts : Nat → Nat) : Prop := ∃ T, ws = wl n w ∧ Dk n bd (enPar par) ∧ BF n c sc w par τ ts T t (fun _ _ => t) ∧ ∀ v, v < n → SzB sc (t * n) (w v)
theorem lowered {n : Nat} {c : CF} {sc : Bool} {t : Nat} (h : Cst n c) (htn : t < n) {ws : List D} {bd : List (Key × D)} {w : WF} {par : Nat → Option Nat} {τ ts : Nat → Nat} (hi : TInv n c sc t ws bd w par τ ts) :
    ∃ d ws' bd' w' par' τ' ts', P.lowered (.str (kstr sc)) (enCm n c) ws bd = some (d, ws', bd') ∧ TInv n c sc (t + 1) ws' bd' w' par' τ' ts' ∧ ((d = .none ∧ ∀ u v, u < n → v < n → w' v ≤ stp sc c w' u v) ∨ ∃ l, l < n ∧ d = .int (l : Int) ∧ τ' l = t + 1) := by
  have n13 := h.n13
  have hsm : smallI (n : Int) := small_of (by omega) (by omega)
  obtain ⟨T, e1, hd, bf, z⟩ := hi
  obtain ⟨s', h1, h2⟩ := fold_range (step := fun s d => P.lowered_L2 (enCm n c) (.str (kstr sc)) s.1 s.2.1 s.2.2 d) (fun a s => LInv n c sc (t + 1) a 0 s) n (ws, bd, .none) ⟨w, par, τ, ts, T, e1, hd, bf.conv (by omega) (fun u v _ _ => by unfold psd; rw [if_neg (by omega)]; omega), fun v hv => (z v hv).mono (by rw [Nat.add_sub_cancel, if_pos rfl]; exact Nat.le_refl _), fun h0 => (z 0 h0).mono (by rw [Nat.add_sub_cancel]; exact Nat.le_refl _), .inl ⟨rfl, fun u v _ _ hh => by omega⟩⟩ (fun a s ha hs => low_row (t := t + 1) h (by omega) (by omega) ha hs)
  obtain ⟨w', par', τ', ts', T', e1', hd', bf', z', _, hl⟩ := h2
  refine ⟨s'.2.2, s'.1, s'.2.1, w', par', τ', ts', ?_, ⟨T', e1', hd', bf'.conv (Nat.le_refl _) fun u v hu hv => ?_, fun v hv => ?_⟩, ?_⟩
  · unfold P.lowered
    simp [hsm, h1]
  · unfold psd; rw [if_pos (by omega)]
  · refine (z' v hv).mono ?_
    rw [Nat.add_sub_cancel, if_pos rfl, Nat.succ_mul]; exact Nat.le_refl _
  · rcases hl with ⟨e0, hl⟩ | hl
    · exact .inl ⟨e0, fun u v hu hv => hl u v hu hv (by omega)⟩
    · exact .inr hl
section
variable {n : Nat} {c : CF} {sc : Bool} {w : WF} {par : Nat → Option Nat} {τ ts : Nat → Nat} {T t : Nat} {pass : Nat → Nat → Nat}
theorem goBack_succ (par : Nat → Option Nat) (k v : Nat) : goBack par (k + 1) v = (par v).bind fun u => goBack par k u := by
  rw [Nat.add_comm, goBack_add]; simp [goBack]
theorem tight (s : BF n c sc w par τ ts T t pass) (hf : ∀ u v, u < n → v < n → w v ≤ stp sc c w u v) {v u : Nat} (hv : v < n) (hp : par v = some u) : u < n ∧ stp sc c w u v = w v ∧ ts u < ts v := by
  obtain ⟨h1, h2, h3⟩ := s.edge v u hv hp
  rcases h3 with h3 | ⟨h3, h4⟩
  · have := hf u v h1 hv; grind
  · exact ⟨h1, h3, h4⟩
theorem tree_sz (h : Cst n c) (s : BF n c sc w par τ ts T t pass) (hf : ∀ u v, u < n → v < n → w v ≤ stp sc c w u v) : ∀ k v, v < n → goBack par (k + 1) v = none → SzB sc k (w v)
  | 0, v, hv, e => by
    have : par v = none := by simpa [goBack] using e
    rw [(s.root v hv this).1]; exact szB_one
  | k + 1, v, hv, e => by
    cases hp : par v with
    | none => rw [(s.root v hv hp).1]; exact szB_one
    | some u =>
      obtain ⟨h1, h2, _⟩ := tight s hf hv hp
      rw [goBack_succ, hp] at e
      have ih := tree_sz h s hf k u h1 e
      rw [← h2]
      exact szB_stp h h1 hv ih (by rw [h2]; exact s.le1 v hv)
theorem back_ts (s : BF n c sc w par τ ts T t pass) (hf : ∀ u v, u < n → v < n → w v ≤ stp sc c w u v) {v : Nat} (hv : v < n) : ∀ k x, goBack par k v = some x → x < n ∧ ts x + k ≤ ts v
  | 0, x, e => by cases e; exact ⟨hv, by omega⟩
  | k + 1, x, e => by
    simp only [goBack, Option.bind_eq_some_iff] at e
    obtain ⟨y, e1, e2⟩ := e
    obtain ⟨h1, h2⟩ := back_ts s hf hv k y e1
    obtain ⟨h3, _, h4⟩ := tight s hf h1 e2
    exact ⟨h3, by omega⟩
theorem back_end (s : BF n c sc w par τ ts T t pass) (hf : ∀ u v, u < n → v < n → w v ≤ stp sc c w u v) {v : Nat} (hv : v < n) : goBack par n v = none := by
  cases e : goBack par n v with
  | none => rfl
  | some y =>
    exfalso
    have hd : ∀ k, k ≤ n → ∃ x, goBack par k v = some x := fun k hk => by
      have := goBack_add par k v (n - k)
      rw [show k + (n - k) = n by omega, e] at this
      cases e2 : goBack par k v with
      | none => rw [e2] at this; cases this
      | some x => exact ⟨x, rfl⟩
    obtain ⟨i, j, hij, hjn, e3⟩ := pigeon (n := n) (f := fun k => (goBack par k v).getD 0) (fun k hk => by
      obtain ⟨x, hx⟩ := hd k hk
      simp only [hx, Option.getD_some]; exact (back_ts s hf hv k x hx).1)
    obtain ⟨x, hx⟩ := hd i (by omega)
    obtain ⟨z, hz⟩ := hd j hjn
    simp only [hx, hz, Option.getD_some] at e3
    subst e3
    have hxn := (back_ts s hf hv i x hx).1
    have cyc : goBack par (j - i) x = some x := by
      have := goBack_add par i v (j - i)
      rw [show i + (j - i) = j by omega, hx, hz] at this
      exact this.symm
    have := (back_ts s hf hxn (j - i) x cyc).2
    omega
theorem fix_sz (h : Cst n c) (s : BF n c sc w par τ ts T t pass) (hf : ∀ u v, u < n → v < n → w v ≤ stp sc c w u v) {v : Nat} (hv : v < n) : SzB sc 12 (w v) := by
  have n1 := h.n1
  have n13 := h.n13
  have := tree_sz h s hf (n - 1) v hv (by rw [show n - 1 + 1 = n by omega]; exact back_end s hf hv)
  exact this.mono (by omega)
theorem szB12 {q : Rat} (h : SzB sc 12 q) : SzQ 520 q := by
  unfold SzB at h
  cases sc with
  | true => simp only [if_true] at h; exact h.mono (by decide)
  | false =>
    simp only [Bool.false_eq_true, if_false] at h
    obtain ⟨k, e, k1, k2⟩ := h
    rw [e]
    refine (szq_ofInt (k := 60) ?_ (by decide)).mono (by decide)
    exact sz_int (M := 72000000000000) (by omega) (by decide)
end
end C
namespace C
open PySem PySem.Spec PyProof.Rows L2 M N B

def wishD (n : Nat) (w l : WF) : D := .tuple [.str "wish", .tuple [.list (wl n w), .list (wl n l)]]
def roundD (p : List Nat) : D := .tuple [.str "round", .list (enI (natI p))]
inductive Told (k : Kd) (n : Nat) (c : CF) : D → Prop
  | wish (w l : WF) : Exp n c w l → KOk k n c w l → (∀ v, v < n → SzQ 1140 (w v) ∧ SzQ 1140 (l v)) → Told k n c (wishD n w l)
  | round (p : List Nat) : IsRnd n p → Bars k c p → Told k n c (roundD p)
theorem rep_wl (n : Nat) (q : Rat) : (List.replicate n [enQ q]).flatten = wl n (fun _ => q) := by
  unfold wl
  induction n with
  | zero => rfl
  | succ n ih => rw [List.replicate_succ', List.flatten_append, ih, List.range_succ, List.map_append]; simp
theorem rep_ok {n : Nat} (hn : n ≤ 13) : rep62 [enQ 1].length (n : Int) := by
  refine ⟨by omega, by omega, ?_⟩
  rw [List.length_singleton, Int.toNat_natCast, Nat.one_mul]
  exact Nat.le_trans hn (by decide)
theorem mul_ones {n : Nat} (hn : n ≤ 13) : op2 mulT (.list [enQ 1]) (.int (n : Int)) = some (.list (wl n fun _ => 1)) := by
  rw [op2, ev_mull, if_pos (rep_ok hn), Int.toNat_natCast, rep_wl]; rfl
theorem rep_of {ds : List D} {n : Int} (h : rep62 ds.length n) : xrep (some (.list ds)) (some (.int n)) = some (List.replicate n.toNat ds).flatten := by
  unfold xrep
  simp only [Option.bind_some, c_intD]
  exact if_pos h
theorem rep_ones {n : Nat} (hn : n ≤ 13) : xrep (some (.list [enQ 1])) (some (.int (n : Int))) = some (wl n fun _ => 1) := by
  have := rep_of (ds := [enQ 1]) (rep_ok hn)
  rwa [Int.toNat_natCast, rep_wl] at this
theorem wish_fix {n : Nat} {c : CF} {sc : Bool} (h : Cst n c) {w : WF} (hp : sc = true → ∀ v, v < n → 0 < w v) (hf : ∀ u v, u < n → v < n → w v ≤ stp sc c w u v) : Exp n c w (fun i => if sc then w i / (c i i : Rat) else 1) ∧ KOk (if sc then .scaled else .even) n c w (fun i => if sc then w i / (c i i : Rat) else 1) := by
  cases sc with
  | false =>
    simp only [Bool.false_eq_true, if_false]
    refine ⟨fun i hi => ⟨by show (0 : Rat) < 1; decide, fun j hj => ?_⟩, fun i hi => rfl⟩
    have := hf i j hi hj
    simp only [stp, Bool.false_eq_true, if_false] at this
    grind
  | true =>
    simp only [if_true]
    have key : ∀ i, i < n → w i / (c i i : Rat) * (c i i : Rat) = w i := fun i hi => Rat.div_mul_cancel (by have := qpos (h.lo i i hi hi); grind)
    refine ⟨fun i hi => ⟨?_, fun j hj => ?_⟩, fun i hi => ⟨hp rfl i hi, (key i hi).symm⟩⟩
    · rw [Rat.lt_div_iff (qpos (h.lo i i hi hi)), Rat.zero_mul]; exact hp rfl i hi
    · have h1 := hf i j hi hj
      simp only [stp, if_true] at h1
      have e : w i + w i / (c i i : Rat) * ((c i j - c i i : Int) : Rat) = w i * (c i j : Rat) / (c i i : Rat) := by
        rw [Rat.intCast_sub]
        have := key i hi
        rw [Rat.div_def] at this ⊢
        rw [Rat.div_def]
        grind
      rw [e]; exact h1
theorem told_turn {n : Nat} {c : CF} {sc : Bool} {t : Nat} (h : Cst n c) (htn : t < n) {ws : List D} {bd : List (Key × D)} {last : Option D} {w : WF} {par : Nat → Option Nat} {τ ts : Nat → Nat} (hi : TInv n c sc t ws bd w par τ ts) :
    (∃ s' w' par' τ' ts', P.told_by_L1 (.str (kstr sc)) (enCm n c) (.int (n : Int)) ws bd last (.int (t : Int)) = some (.nx s') ∧ TInv n c sc (t + 1) s'.1 s'.2.1 w' par' τ' ts' ∧ ∃ l, l < n ∧ s'.2.2 = some (.int (l : Int)) ∧ τ' l = t + 1) ∨
    ∃ r, P.told_by_L1 (.str (kstr sc)) (enCm n c) (.int (n : Int)) ws bd last (.int (t : Int)) = some (.rt r) ∧ Told (if sc then .scaled else .even) n c r := by
  have n13 := h.n13
  obtain ⟨d, ws', bd', w', par', τ', ts', h1, h2, h3⟩ := lowered h htn hi
  rcases h3 with ⟨rfl, hf⟩ | ⟨l, hl, rfl, ht⟩
  · right
    obtain ⟨T, rfl, hd, bf, z⟩ := h2
    have sz : ∀ v, v < n → SzQ 520 (w' v) := fun v hv => szB12 (fix_sz h bf hf hv)
    obtain ⟨ex, ko⟩ := wish_fix h bf.pos hf
    refine ⟨wishD n w' (fun i => if sc then w' i / (c i i : Rat) else 1), ?_, .wish _ _ ex ko fun v hv => ⟨(sz v hv).mono (by decide), ?_⟩⟩
    · unfold P.told_by_L1
      have hmul := mul_ones n13
      have hsm : smallI (n : Int) := small_of (by omega) (by omega)
      cases sc with
      | false => simp [h1, kstr_scaled, one_Q, hmul, wishD]
      | true =>
        have hmap : xmap (fun k => ap2 P.over (xop idxT (some (.list (wl n w'))) (some k)) (xop idxT (xop idxT (some (enCm n c)) (some k)) (some k))) (some (rangeD 0 (n : Int))) = some (.list (wl n fun i => w' i / (c i i : Rat))) := by
          refine xmap_range n _ (by unfold LIM; omega) fun i hi => ?_
          have := p_over (p := w' i) (k := c i i) (by have := h.lo i i hi hi; omega) ((sz i hi).mono (by decide)) ((sz_cost h hi hi).mono (by decide))
          simp [at_wl hi, ix_Cm hi, at_rowC hi, this]
        simp only [if_true]
        simp [h1, kstr_scaled, one_Q, hmul, hsm, wishD] at hmap ⊢
        simp [hmap]
    · cases sc with
      | false => simp only [Bool.false_eq_true, if_false]; exact szq_one (by decide)
      | true =>
        simp only [if_true]
        exact (szq_divI (by have := h.lo v v hv hv; omega) (sz v hv) (sz_cost h hv hv)).mono (by decide)
  · left
    refine ⟨(ws', bd', some (.int (l : Int))), w', par', τ', ts', ?_, h2, l, hl, rfl, ht⟩
    unfold P.told_by_L1
    simp [h1]
theorem told_es {n : Nat} {bk : List Buy} (sc : Bool) (v : ValidBook n bk) (h13 : bk.length ≤ 13) : ∃ r, P.told_by (enBk bk) (.str (kstr sc)) = some r ∧ Told (if sc then .scaled else .even) bk.length (cM bk) r := by
  have h := v.cst h13
  have hc := p_costs v (by omega)
  generalize hnn : bk.length = m at *
  generalize cM bk = c at *
  have hsm : smallI (m : Int) := small_of (by omega) (by omega)
  have hrep := rep_ones h13
  have hlen : lenT [.p (enBk bk)] = some (.p (.int (m : Int))) := by rw [len_bk, hnn]
  have loop := foldC_range (step := fun s d => P.told_by_L1 (.str (kstr sc)) (enCm m c) (.int (m : Int)) s.1 s.2.1 s.2.2 d) (fun k s => ∃ w par τ ts, TInv m c sc k s.1 s.2.1 w par τ ts ∧ (k = 0 ∨ ∃ l, l < m ∧ s.2.2 = some (.int (l : Int)) ∧ τ l = k)) (fun r => Told (if sc then .scaled else .even) m c r) m (wl m fun _ => 1, [], none)
    ⟨fun _ => 1, fun _ => none, fun _ => 0, fun _ => 0, ⟨0, rfl, Dk.nil m, BF.start, fun v hv => szB_one⟩, .inl rfl⟩ (by
      rintro i ⟨s1, s2, s3⟩ hi ⟨w, par, τ, ts, hT, _⟩
      rcases told_turn h hi (last := s3) hT with ⟨s', w', par', τ', ts', h1, h2, h3⟩ | ⟨r, h1, h2⟩
      · exact .inl ⟨s', h1, w', par', τ', ts', h2, .inr h3⟩
      · exact .inr ⟨r, h1, h2⟩)
  unfold P.told_by
  rcases loop with ⟨⟨s1, s2, s3⟩, h1, w, par, τ, ts, ⟨T, e1, hd, bf, z⟩, h3⟩ | ⟨r, h1, h2⟩
  · have n1 := h.n1
    rcases h3 with h3 | ⟨l, hl, h4, h5⟩
    · omega
    · simp only at h4 hd
      subst h4
      obtain ⟨p, a, u, hr, rnd, st, hh, hla, hpa⟩ := round_back h bf hd hl (by omega)
      refine ⟨roundD p, ?_, .round p rnd (par_bars h bf rnd.lt st hh hla hpa)⟩
      simp [hc, kstr_any, hlen, one_Q, hrep, hsm, h1, hr, roundD]
  · exact ⟨r, by simp [hc, kstr_any, hlen, one_Q, hrep, hsm, h1], h2⟩
end C
namespace C
open PySem PySem.Spec PyProof.Rows L2 M N B

/-- a table of truths -/
def bRows (n : Nat) (f : Nat → Nat → Bool) : List (List Bool) := (List.range n).map fun k => (List.range n).map fun j => f k j
def Wb (n : Nat) (f : Nat → Nat → Bool) (a b : Nat) : Prop := a < n ∧ b < n ∧ f a b = true
theorem bRows_len (n : Nat) (f : Nat → Nat → Bool) : (bRows n f).length = n := by simp [bRows]
theorem bRows_sq {n : Nat} (f : Nat → Nat → Bool) (hn : n ≤ 100) : SqW (bRows n f) := ⟨fun r hr => by
  unfold bRows at hr ⊢
  obtain ⟨k, _, rfl⟩ := List.mem_map.mp hr
  simp, by rw [bRows_len]; exact hn⟩
theorem bRows_wv {n : Nat} {f : Nat → Nat → Bool} {a b : Nat} : wv (bRows n f) a b ↔ Wb n f a b := by
  unfold wv Wb bRows
  by_cases ha : a < n
  · by_cases hb : b < n
    · simp [List.getElem?_range, ha, hb]
    · simp [ha, hb, List.getElem?_eq_none]
  · simp [ha, List.getElem?_eq_none]
theorem p_way {n : Nat} (f : Nat → Nat → Bool) (hn : n ≤ 100) {one other : Nat} (h1 : one < n) (h2 : other < n) :
    ∃ r : Option (List Nat), P.way_between (enW (bRows n f)) (.int (one : Int)) (.int (other : Int)) = some (enR r) ∧ (∀ p, r = some p → Way (Wb n f) one other p ∧ ∀ x ∈ p, x < n) ∧ (r.isSome = true ↔ Reach (Wb n f) one other) := by
  obtain ⟨r, h, hp, hr⟩ := way_between (bRows_sq f hn) (one := one) (other := other) (by rw [bRows_len]; exact h1) (by rw [bRows_len]; exact h2)
  have hp' : ∀ p, r = some p → Way (Wb n f) one other p ∧ ∀ x ∈ p, x < n := fun p e => by
    obtain ⟨w, l⟩ := hp p e
    refine ⟨⟨w.hd, w.lst, steps_imp (fun a b z => bRows_wv.mp z) w.st, w.nd⟩, fun x hx => ?_⟩
    have := l x hx
    rwa [bRows_len] at this
  refine ⟨r, qc_of h, hp', ?_⟩
  cases r with
  | none =>
    simp only [Option.isSome_none, Bool.false_eq_true, false_iff]
    exact fun z => hr rfl (reach_imp (fun a b z => bRows_wv.mpr z) z)
  | some p =>
    simp only [Option.isSome_some, true_iff]
    have w := (hp' p rfl).1
    exact steps_reach w.st w.hd w.lst
theorem notn_R (r : Option (List Nat)) : op2 notnT (enR r) .none = some (.bool r.isSome) := by cases r <;> rfl
@[simp] theorem len_W {n : Nat} {f : Nat → Nat → Bool} : lenT [.p (enW (bRows n f))] = some (.p (.int n)) := by unfold enW bRows; simp
def opn (c : CF) (k j : Nat) : Bool := decide (j ≠ k ∧ c k j ≤ c k k)
abbrev Op (n : Nat) (c : CF) := Wb n (opn c)
theorem open_ways {n : Nat} {c : CF} (hn : n ≤ 100) : P.open_ways (enCm n c) = some (enW (bRows n (opn c))) := by
  have hl : (n : Int) ≤ 1000000 ∧ -1000000 ≤ (n : Int) := by omega
  obtain ⟨s, h1, h2⟩ := fold_range (step := fun s d => P.open_ways_L1 (enCm n c) (.list (rangeD 0 (n : Int))) s d) (fun i s => s = (List.range i).map fun k => .list (enBl ((List.range n).map fun j => opn c k j))) n [] rfl (by
    rintro i s hi rfl
    have hm : xmap (fun j_v => xmand (xop M.neT (some j_v) (some (.int (i : Int)))) (xop leT (xop idxT (xop idxT (some (enCm n c)) (some (.int (i : Int)))) (some j_v)) (xop idxT (xop idxT (some (enCm n c)) (some (.int (i : Int)))) (some (.int (i : Int)))))) (some (rangeD 0 (n : Int))) = some (.list (enBl ((List.range n).map fun j => opn c i j))) := by
      rw [xmap_range n (fun j => .bool (opn c i j)) (by unfold LIM; omega) (fun j hj => by
        by_cases e : j = i
        · subst e; simp [opn]
        · have e' : ¬ (j : Int) = (i : Int) := by omega
          simp [e', e, ix_Cm hi, at_rowC hi, at_rowC hj, opn])]
      unfold enBl; rw [List.map_map]; rfl
    refine ⟨((List.range i).map fun k => PyData.list (enBl ((List.range n).map fun j => opn c k j))) ++ [.list (enBl ((List.range n).map fun j => opn c i j))], ?_, by rw [List.range_succ, List.map_append]; rfl⟩
    unfold P.open_ways_L1
    have hq : ((List.range i).map fun k => PyData.list (enBl ((List.range n).map fun j => opn c k j))).length < LIM := by simp [LIM]; omega
    rw [c_iseq1, hm]
    simp only [Option.bind_some, apd, if_pos hq])
  unfold P.open_ways
  subst h2
  simp only [c_xf1, len_Cm, Option.bind_some, ev_pure, c_xlistR, hl, and_self, if_true, c_xseq0, c_iseq1, h1]
  unfold enW bRows
  rw [List.map_map]; rfl
theorem le_all_steps {n : Nat} {c : CF} {a : Nat} : ∀ {p : List Nat} {b : Nat}, Steps (Op n c) p → p.getLast? = some b → c b a ≤ c b b → LeAll (clos c a p) (owns c p)
  | [], _, _, h, _ => by simp at h
  | [x], b, _, h, hc => by simp at h; subst h; exact ⟨hc, trivial⟩
  | x :: y :: r, b, s, h, hc => by
    have h1 := s.1
    simp only [Op, Wb, opn, decide_eq_true_eq] at h1
    exact ⟨h1.2.2.2, le_all_steps (p := y :: r) s.2 (by simpa using h) hc⟩
theorem clos_last_ne {c : CF} {a : Nat} : ∀ {p : List Nat} {b : Nat}, p.getLast? = some b → c b a < c b b → clos c a p ≠ owns c p
  | [], _, h, _ => by simp at h
  | [x], b, h, hc => by simp at h; subst h; simp [clos, owns]; omega
  | x :: y :: r, b, h, hc => by
    have := clos_last_ne (p := y :: r) (by simpa using h) hc (a := a)
    simp only [clos, owns, List.map_cons, ne_eq, List.cons.injEq, not_and]
    exact fun _ z => this z
theorem barring_round {n : Nat} {c : CF} (h : Cst n c) : (∃ p, P.barring_round (enCm n c) (enW (bRows n (opn c))) = some (.list (enI (natI p))) ∧ IsRnd n p ∧ Bars .any c p) ∨ (P.barring_round (enCm n c) (enW (bRows n (opn c))) = some .none ∧ ∀ k j, k < n → j < n → c k j < c k k → ¬ Reach (Op n c) j k) := by
  have n13 := h.n13
  have hsm : smallI (n : Int) := small_of (by omega) (by omega)
  have row : ∀ k, k < n → (P.barring_round_L2 (enCm n c) (enW (bRows n (opn c))) (.int (k : Int)) = some (.nx ()) ∧ ∀ j, j < n → c k j < c k k → ¬ Reach (Op n c) j k) ∨ ∃ p, P.barring_round_L2 (enCm n c) (enW (bRows n (opn c))) (.int (k : Int)) = some (.rt (.list (enI (natI p)))) ∧ IsRnd n p ∧ Bars .any c p := by
    intro k hk
    have loop := foldC_range (step := fun (s : Unit) d => P.barring_round_L1 (enCm n c) (.int (k : Int)) (enW (bRows n (opn c))) d) (fun i _ => ∀ j, j < i → c k j < c k k → ¬ Reach (Op n c) j k) (fun r => ∃ p, r = .list (enI (natI p)) ∧ IsRnd n p ∧ Bars .any c p) n () (fun j hj => by omega) (by
      rintro j _ hj hi
      unfold P.barring_round_L1
      by_cases hlt : c k j < c k k
      · obtain ⟨r, hr, hp, hre⟩ := p_way (opn c) (by omega : n ≤ 100) hj hk
        cases r with
        | none =>
          left
          refine ⟨(), ?_, fun j' hj' hlt' => ?_⟩
          · simp [ix_Cm hk, at_rowC hj, at_rowC hk, hlt, hr, notn_R]
          · by_cases e : j' = j
            · subst e; intro z; have := hre.mpr z; simp at this
            · exact hi j' (by omega) hlt'
        | some p =>
          right
          obtain ⟨w, wl⟩ := hp p rfl
          have hjk : j ≠ k := by intro z; subst z; omega
          refine ⟨.list (enI (natI p)), ?_, p, rfl, ⟨?_, w.nd, wl⟩, ?_⟩
          · simp [ix_Cm hk, at_rowC hj, at_rowC hk, hlt, hr, notn_R, enR]
          · match p, w with
            | [], w => have := w.hd; simp at this
            | [x], w => have a := w.hd; have b := w.lst; simp at a b; omega
            | x :: y :: t, _ => simp
          · have hd : p.headD 0 = j := by rw [List.headD_eq_head?_getD, w.hd]; rfl
            simp only [Bars, steps, hd]
            exact ⟨le_all_steps w.st w.lst (by omega), clos_last_ne w.lst hlt⟩
      · left
        refine ⟨(), ?_, fun j' hj' hlt' => ?_⟩
        · simp [ix_Cm hk, at_rowC hj, at_rowC hk, hlt]
        · by_cases e : j' = j
          · subst e; omega
          · exact hi j' (by omega) hlt')
    unfold P.barring_round_L2
    rcases loop with ⟨s', h1, h2⟩ | ⟨r, h1, p, rfl, h2⟩
    · left
      exact ⟨by simp [hsm, h1], fun j hj => h2 j hj⟩
    · right
      exact ⟨p, by simp [hsm, h1], h2⟩
  have loop := foldC_range (step := fun (s : Unit) d => P.barring_round_L2 (enCm n c) (enW (bRows n (opn c))) d) (fun i _ => ∀ k j, k < i → j < n → c k j < c k k → ¬ Reach (Op n c) j k) (fun r => ∃ p, r = .list (enI (natI p)) ∧ IsRnd n p ∧ Bars .any c p) n () (fun k j hk => by omega) (by
    rintro k _ hk hi
    rcases row k hk with ⟨h1, h2⟩ | ⟨p, h1, h2⟩
    · left
      refine ⟨(), h1, fun k' j hk' hj hlt => ?_⟩
      by_cases e : k' = k
      · subst e; exact h2 j hj hlt
      · exact hi k' j (by omega) hj hlt
    · right
      exact ⟨_, h1, p, rfl, h2⟩)
  unfold P.barring_round
  rcases loop with ⟨s', h1, h2⟩ | ⟨r, h1, p, rfl, h2⟩
  · right
    exact ⟨by simp [hsm, h1], fun k j hk hj hlt => h2 k j hk hj hlt⟩
  · left
    exact ⟨p, by simp [hsm, h1], h2⟩
end C
namespace C
open PySem PySem.Spec PyProof.Rows L2 M N B

theorem filter_le {α : Type} {p q : α → Bool} : ∀ {l : List α}, (∀ x ∈ l, p x = true → q x = true) → (l.filter p).length ≤ (l.filter q).length
  | [], _ => Nat.le_refl _
  | x :: r, h => by
    have ih := filter_le (l := r) fun y hy => h y (List.mem_cons_of_mem _ hy)
    have hx := h x List.mem_cons_self
    simp only [List.filter_cons]
    cases hp : p x with
    | true => rw [hx hp]; simp; exact ih
    | false =>
      cases q x with
      | true => simp; omega
      | false => simpa using ih
theorem filter_lt {α : Type} {p q : α → Bool} : ∀ {l : List α}, (∀ x ∈ l, p x = true → q x = true) → (∃ x ∈ l, q x = true ∧ p x = false) → (l.filter p).length < (l.filter q).length
  | [], _, h => by simp at h
  | x :: r, h, he => by
    have hr := fun y hy => h y (List.mem_cons_of_mem x hy)
    have hx := h x List.mem_cons_self
    simp only [List.filter_cons]
    by_cases hxx : q x = true ∧ p x = false
    · rw [hxx.1, hxx.2]
      have := filter_le hr
      simp; omega
    · have he' : ∃ y ∈ r, q y = true ∧ p y = false := by
        obtain ⟨y, hy, e⟩ := he
        rcases List.mem_cons.mp hy with rfl | hy
        · exact absurd e hxx
        · exact ⟨y, hy, e⟩
      have ih := filter_lt hr he'
      cases hp : p x with
      | true => rw [hx hp]; simp; exact ih
      | false =>
        cases hq : q x with
        | true => exact absurd ⟨hq, hp⟩ hxx
        | false => simpa using ih
open Classical in
/-- one above which none stands but those on its level -/
theorem max_ex {R : Nat → Nat → Prop} (hrefl : ∀ a, R a a) (htr : ∀ a b c, R a b → R b c → R a c) {lf : List Nat} : ∀ m k, k ∈ lf → (lf.filter fun j => decide (R j k)).length = m → ∃ k ∈ lf, ∀ j ∈ lf, R j k → R k j := by
  intro m
  induction m using Nat.strongRecOn with
  | _ m ih =>
    intro k hk hm
    by_cases hg : ∀ j ∈ lf, R j k → R k j
    · exact ⟨k, hk, hg⟩
    · obtain ⟨j, hj, h1, h2⟩ : ∃ j ∈ lf, R j k ∧ ¬ R k j := by
        refine Classical.byContradiction fun hno => hg fun j hj h1 => Classical.byContradiction fun h2 => hno ⟨j, hj, h1, h2⟩
      have hlt := filter_lt (p := fun i => decide (R i j)) (q := fun i => decide (R i k)) (l := lf) (fun x _ hx => by
        simp only [decide_eq_true_eq] at hx ⊢; exact htr x j k hx h1) ⟨k, hk, by simp only [decide_eq_true_eq, decide_eq_false_iff_not]; exact ⟨hrefl k, h2⟩⟩
      rw [hm] at hlt
      exact ih _ hlt j hj rfl
theorem all_bools (xs : List Bool) : (allT [.p (.list (enBl xs))]).bind T.pure? = some (.bool (xs.all id)) := by rw [allT_b]; rfl
theorem natI_map (lf : List Nat) : enI (natI lf) = lf.map fun (k : Nat) => PyData.int (k : Int) := by unfold enI natI; rw [List.map_map]; rfl
open Classical in
theorem top_class {n : Nat} (f : Nat → Nat → Bool) (hn : n ≤ 100) {lf : List Nat} (hne : lf ≠ []) (hlt : ∀ x ∈ lf, x < n) (hl : lf.length ≤ 1000) :
    ∃ k0, k0 ∈ lf ∧ P.top_class (enW (bRows n f)) (.list (enI (natI lf))) = some (.list (enI (natI (lf.filter fun j => decide (Reach (Wb n f) j k0))))) ∧ ∀ j ∈ lf, Reach (Wb n f) j k0 → Reach (Wb n f) k0 j := by
  have way : ∀ a b, a < n → b < n → ∃ r, P.way_between (enW (bRows n f)) (.int (a : Int)) (.int (b : Int)) = some r ∧ op2 notnT r .none = some (.bool (decide (Reach (Wb n f) a b))) := fun a b ha hb => by
    obtain ⟨r, h1, _, h3⟩ := p_way f hn ha hb
    refine ⟨_, h1, ?_⟩
    rw [notn_R]
    congr 2
    rw [Bool.eq_iff_iff, decide_eq_true_eq, h3]
  have step : ∀ k, k ∈ lf → P.top_class_L1 (enW (bRows n f)) (.list (enI (natI lf))) (.int (k : Int)) = if (∀ j ∈ lf, Reach (Wb n f) j k → Reach (Wb n f) k j) then some (.rt (.list (enI (natI (lf.filter fun j => decide (Reach (Wb n f) j k)))))) else some (.nx ()) := by
    intro k hk
    have hkn := hlt k hk
    obtain ⟨A, hA⟩ : ∃ A, A = lf.filter fun j => decide (Reach (Wb n f) j k) := ⟨_, rfl⟩
    have e1 : xlc (fun j_v => xflt (xbool (xop notnT (ap3 P.way_between (some (enW (bRows n f))) (some j_v) (some (.int (k : Int)))) (some .none))) (some j_v)) (iseq (some (.list (enI (natI lf))))) = some (.list (enI (natI A))) := by
      rw [c_iseq1, natI_map, natI_map, xlc_of (fun (k : Nat) => PyData.int (k : Int)) (fun j => decide (Reach (Wb n f) j k)) (fun (k : Nat) => PyData.int (k : Int)) lf (by unfold LIM; omega) (fun j hj => by
        obtain ⟨r, h1, h2⟩ := way j k (hlt j hj) hkn
        simp only [c_ap3, h1, c_xop, h2, c_xbool, xflt, c_xif, Option.map_some]
        split <;> rfl), hA]
    have e2 : xmap (fun j_v_2 => xop notnT (ap3 P.way_between (some (enW (bRows n f))) (some (.int (k : Int))) (some j_v_2)) (some .none)) (iseq (some (.list (enI (natI A))))) = some (.list (enBl (A.map fun j => decide (Reach (Wb n f) k j)))) := by
      rw [c_iseq1, natI_map, xmap_of (fun (k : Nat) => PyData.int (k : Int)) (fun j => PyData.bool (decide (Reach (Wb n f) k j))) A (by rw [hA]; have := List.length_filter_le (fun j => decide (Reach (Wb n f) j k)) lf; unfold LIM; omega) (fun j hj => by
        have hj' : j < n := by rw [hA] at hj; exact hlt j (List.mem_filter.mp hj).1
        obtain ⟨r, h1, h2⟩ := way k j hkn hj'
        simp only [c_ap3, h1, c_xop, h2])]
      unfold enBl; rw [List.map_map]; rfl
    have e3 : (A.map fun j => decide (Reach (Wb n f) k j)).all id = decide (∀ j ∈ lf, Reach (Wb n f) j k → Reach (Wb n f) k j) := by
      rw [Bool.eq_iff_iff, decide_eq_true_eq, List.all_eq_true]
      constructor
      · intro h j hj hr
        have := h (decide (Reach (Wb n f) k j)) (List.mem_map.mpr ⟨j, by rw [hA]; exact List.mem_filter.mpr ⟨hj, by simpa using hr⟩, rfl⟩)
        simpa using this
      · intro h b hb
        obtain ⟨j, hj, rfl⟩ := List.mem_map.mp hb
        rw [hA] at hj
        have := List.mem_filter.mp hj
        simpa using h j this.1 (by simpa using this.2)
    unfold P.top_class_L1
    rw [e1, Option.bind_some, e2, c_xf1, all_bools, c_xbool, c_xif, e3, ← hA]
    by_cases hg : ∀ j ∈ lf, Reach (Wb n f) j k → Reach (Wb n f) k j
    · rw [if_pos hg, if_pos (by simpa using hg)]
    · rw [if_neg hg, if_neg (by simpa using hg)]
  -- the first good one
  have run : ∀ ls : List Nat, (∀ x ∈ ls, x ∈ lf) → (∃ k ∈ ls, ∀ j ∈ lf, Reach (Wb n f) j k → Reach (Wb n f) k j) → ∃ k0 ∈ lf, foldC (fun (s : Unit) d => P.top_class_L1 (enW (bRows n f)) (.list (enI (natI lf))) d) (enI (natI ls)) () = some (.rt (.list (enI (natI (lf.filter fun j => decide (Reach (Wb n f) j k0)))))) ∧ ∀ j ∈ lf, Reach (Wb n f) j k0 → Reach (Wb n f) k0 j := by
    intro ls
    induction ls with
    | nil => rintro _ ⟨k, hk, _⟩; simp at hk
    | cons x r ih =>
      intro hs he
      have hx := step x (hs x List.mem_cons_self)
      by_cases hg : ∀ j ∈ lf, Reach (Wb n f) j x → Reach (Wb n f) x j
      · refine ⟨x, hs x List.mem_cons_self, ?_, hg⟩
        rw [if_pos hg] at hx
        rw [show enI (natI (x :: r)) = .int (x : Int) :: enI (natI r) from rfl, foldC, hx, Option.bind_some]
      · rw [if_neg hg] at hx
        obtain ⟨k0, h1, h2, h3⟩ := ih (fun y hy => hs y (List.mem_cons_of_mem _ hy)) (by
          obtain ⟨k, hk, hkg⟩ := he
          rcases List.mem_cons.mp hk with rfl | hk
          · exact absurd hkg hg
          · exact ⟨k, hk, hkg⟩)
        refine ⟨k0, h1, ?_, h3⟩
        rw [show enI (natI (x :: r)) = .int (x : Int) :: enI (natI r) from rfl, foldC, hx, Option.bind_some]
        exact h2
  have ex : ∃ k ∈ lf, ∀ j ∈ lf, Reach (Wb n f) j k → Reach (Wb n f) k j := by
    cases lf with
    | nil => exact absurd rfl hne
    | cons a r => exact max_ex (R := Reach (Wb n f)) (fun a => .refl) (fun a b c => reach_trans) _ a List.mem_cons_self rfl
  obtain ⟨k0, h1, h2, h3⟩ := run lf (fun _ h => h) ex
  refine ⟨k0, h1, ?_, h3⟩
  unfold P.top_class
  rw [c_iseq1, Option.bind_some, h2, c_aft2]
end C
set_option exponentiation.threshold 100
namespace C
open PySem PySem.Spec PyProof.Rows L2 M N B

theorem whl_meas {S : Type} {cnd : S → Option Bool} {step : S → Option S} (I : S → Prop) (μ : S → Nat) (hs : ∀ s, I s → cnd s = some false ∨ (cnd s = some true ∧ ∃ s', step s = some s' ∧ I s' ∧ μ s' < μ s)) : ∀ fuel s, I s → μ s < fuel → ∃ s', whl cnd step fuel s = some s' ∧ I s' ∧ cnd s' = some false := by
  intro fuel
  induction fuel with
  | zero => intro s _ h; omega
  | succ fuel ih =>
    intro s hI hm
    rcases hs s hI with h | ⟨h, s', h1, h2, h3⟩
    · exact ⟨s, by rw [whl, h, c_xif_f], hI, h⟩
    · obtain ⟨x, a, b, d⟩ := ih s' h2 (by omega)
      exact ⟨x, by rw [whl, h, c_xif_t, h1, Option.bind_some, a], b, d⟩
theorem Dk.keys {n : Nat} {b : List (Key × D)} {f : Nat → Option D} (h : Dk n b f) : ∃ ks : List Nat, dkeys b = ks.map (fun (v : Nat) => PyData.int (v : Int)) ∧ (∀ v, v ∈ ks ↔ (f v).isSome = true) ∧ ks.length ≤ n ∧ ∀ v ∈ ks, v < n := by
  have key : ∀ b : List (Key × D), (∀ kv ∈ b, ∃ v, v < n ∧ kv.1 = .inl (v : Int)) → ∃ ks : List Nat, b.map (·.1) = ks.map (fun (v : Nat) => (Sum.inl (v : Int) : Key)) ∧ ∀ v ∈ ks, v < n := by
    intro b
    induction b with
    | nil => intro _; exact ⟨[], rfl, by simp⟩
    | cons x r ih =>
      intro hb
      obtain ⟨v, hv, e⟩ := hb x List.mem_cons_self
      obtain ⟨ks, h1, h2⟩ := ih fun kv hkv => hb kv (List.mem_cons_of_mem _ hkv)
      exact ⟨v :: ks, by simp [e, h1], by simpa using ⟨hv, h2⟩⟩
  obtain ⟨ks, h1, h2⟩ := key b h.ks
  have hlen : ks.length = b.length := by have := congrArg List.length h1; simpa using this.symm
  refine ⟨ks, ?_, fun v => ?_, by rw [hlen]; exact h.len, h2⟩
  · unfold dkeys
    have : (b.map fun p => keyD p.1) = (b.map (·.1)).map keyD := by rw [List.map_map]; rfl
    rw [this, h1, List.map_map]; rfl
  · rw [← h.val v]
    have hm : v ∈ ks ↔ (Sum.inl (v : Int) : Key) ∈ b.map (·.1) := by
      rw [h1]
      constructor
      · intro z; exact List.mem_map.mpr ⟨v, z, rfl⟩
      · intro z
        obtain ⟨u, hu, e⟩ := List.mem_map.mp z
        simp at e
        have : u = v := by omega
        rw [← this]; exact hu
    rw [hm]
    unfold valD
    simp only [Option.isSome_map, List.find?_isSome, decide_eq_true_eq, List.mem_map]
def IsI (q : Rat) : Prop := ∃ z : Int, q = (z : Rat)
theorem IsI.add {p q : Rat} (h : IsI p) (h' : IsI q) : IsI (p + q) := by
  obtain ⟨a, rfl⟩ := h; obtain ⟨b, rfl⟩ := h'; exact ⟨a + b, by norm_cast⟩
theorem IsI.sub {p q : Rat} (h : IsI p) (h' : IsI q) : IsI (p - q) := by
  obtain ⟨a, rfl⟩ := h; obtain ⟨b, rfl⟩ := h'; exact ⟨a - b, by norm_cast⟩
theorem IsI.mul {p q : Rat} (h : IsI p) (h' : IsI q) : IsI (p * q) := by
  obtain ⟨a, rfl⟩ := h; obtain ⟨b, rfl⟩ := h'; exact ⟨a * b, by norm_cast⟩
theorem IsI.of (z : Int) : IsI (z : Rat) := ⟨z, rfl⟩
/-- a fraction by a bottom of at most 2 ^ a, no greater than 2 ^ b -/
structure Gq (N : Int) (b : Nat) (q : Rat) : Prop where
  i : IsI ((N : Rat) * q)
  lo : -((2 ^ b : Nat) : Rat) ≤ q
  hi : q ≤ ((2 ^ b : Nat) : Rat)
theorem Gq.sz {N : Int} {a b : Nat} {q : Rat} (hN : 1 ≤ N) (hNa : N.natAbs < 2 ^ a) (g : Gq N b q) : SzQ (a + b + 1) q := by
  obtain ⟨z, hz⟩ := g.i
  have hNp := qpos hN
  have e : q = Rat.divInt z N := by
    rw [Rat.divInt_eq_div, ← hz, Rat.mul_comm, Rat.mul_div_cancel (by grind)]
  have h1 : (z : Rat) ≤ ((N * (2 ^ b : Nat) : Int) : Rat) := by
    rw [← hz, Rat.intCast_mul, Rat.intCast_natCast]
    exact Rat.mul_le_mul_of_nonneg_left g.hi (by grind)
  have h2 : ((-(N * (2 ^ b : Nat)) : Int) : Rat) ≤ (z : Rat) := by
    rw [← hz, Rat.intCast_neg, Rat.intCast_mul, Rat.intCast_natCast]
    have := Rat.mul_le_mul_of_nonneg_left g.lo (show 0 ≤ (N : Rat) by grind)
    grind
  have h1 : z ≤ N * (2 ^ b : Nat) := by exact_mod_cast h1
  have h2 : -(N * (2 ^ b : Nat)) ≤ z := by exact_mod_cast h2
  have hz' : z.natAbs ≤ N.natAbs * 2 ^ b := by
    have : N * ((2 ^ b : Nat) : Int) = ((N.natAbs * 2 ^ b : Nat) : Int) := by
      rw [Int.natCast_mul, Int.natAbs_of_nonneg (by omega)]
    omega
  rw [e]
  refine szq_divInt (by omega) ?_ ?_
  · unfold Sz
    have : N.natAbs * 2 ^ b < 2 ^ a * 2 ^ b := Nat.mul_lt_mul_of_pos_right hNa (Nat.pow_pos (by decide))
    rw [← Nat.pow_add] at this
    have h3 : 2 ^ (a + b) ≤ 2 ^ (a + b + 1) := Nat.pow_le_pow_right (by decide) (by omega)
    omega
  · unfold Sz
    have h3 : 2 ^ a ≤ 2 ^ (a + b + 1) := Nat.pow_le_pow_right (by decide) (by omega)
    omega
theorem Gq.mono {N : Int} {b b' : Nat} {q : Rat} (g : Gq N b q) (h : b ≤ b') : Gq N b' q := by
  have : ((2 ^ b : Nat) : Rat) ≤ ((2 ^ b' : Nat) : Rat) := by exact_mod_cast Nat.pow_le_pow_right (by decide) h
  exact ⟨g.i, by have := g.lo; grind, by have := g.hi; grind⟩
theorem gq_one {N : Int} {b : Nat} : Gq N b 1 := by
  have : ((1 : Nat) : Rat) ≤ ((2 ^ b : Nat) : Rat) := by exact_mod_cast Nat.one_le_two_pow
  have h1 : ((1 : Nat) : Rat) = 1 := rfl
  refine ⟨⟨N, by grind⟩, by grind, by grind⟩
/-- w + l d -/
theorem gq_step {N : Int} {b : Nat} {w l : Rat} {d : Int} (hw : Gq N b w) (hl : Gq N b l) (hl0 : 0 ≤ l) (hd : d.natAbs ≤ 6000000000000) : Gq N (b + 43) (w + l * (d : Rat)) := by
  have hb : (0 : Rat) < ((2 ^ b : Nat) : Rat) := by exact_mod_cast Nat.pow_pos (by decide)
  have e43 : ((2 ^ (b + 43) : Nat) : Rat) = ((2 ^ b : Nat) : Rat) * 8796093022208 := by
    rw [Nat.pow_add]; norm_cast
  have hd1 : (d : Rat) ≤ 6000000000000 := by
    rw [show (6000000000000 : Rat) = ((6000000000000 : Int) : Rat) from rfl]; exact Rat.intCast_le_intCast.mpr (by omega)
  have hd2 : (-6000000000000 : Rat) ≤ (d : Rat) := by
    rw [show (-6000000000000 : Rat) = ((-6000000000000 : Int) : Rat) from rfl]; exact Rat.intCast_le_intCast.mpr (by omega)
  have p1 : l * (d : Rat) ≤ ((2 ^ b : Nat) : Rat) * 6000000000000 := by
    have a1 := Rat.mul_le_mul_of_nonneg_left hd1 hl0
    have a2 := Rat.mul_le_mul_of_nonneg_right hl.hi (show (0 : Rat) ≤ 6000000000000 by decide)
    grind
  have p2 : -(((2 ^ b : Nat) : Rat) * 6000000000000) ≤ l * (d : Rat) := by
    have a1 := Rat.mul_le_mul_of_nonneg_left hd2 hl0
    have a2 := Rat.mul_le_mul_of_nonneg_right hl.hi (show (0 : Rat) ≤ 6000000000000 by decide)
    grind
  refine ⟨?_, ?_, ?_⟩
  · have : (N : Rat) * (w + l * (d : Rat)) = (N : Rat) * w + ((N : Rat) * l) * (d : Rat) := by grind
    rw [this]
    exact hw.i.add (hl.i.mul (IsI.of d))
  · rw [e43]; have := hw.lo; grind
  · rw [e43]; have := hw.hi; grind
end C
set_option exponentiation.threshold 100
namespace C
open PySem PySem.Spec PyProof.Rows L2 M N B

def enF (pd : List Nat) (w : WF) (v : Nat) : Option D := if v ∈ pd then some (enQ (w v)) else none
/-- those done (pd) and those left (lf), behind m levels -/
structure AW (n : Nat) (c : CF) (m : Nat) (bw bl : List (Key × D)) (pd lf : List Nat) (w l : WF) (N : Int) : Prop where
  wd : Dk n bw (enF pd w)
  ld : Dk n bl (enF pd l)
  pn : ∀ v ∈ pd, v < n
  ln : ∀ v ∈ lf, v < n
  nd : lf.Nodup
  all : ∀ v, v < n → v ∈ pd ∨ v ∈ lf
  dis : ∀ v ∈ lf, v ∉ pd
  ex : ∀ i ∈ pd, ∀ j ∈ pd, w j ≤ w i + l i * ((c i j - c i i : Int) : Rat)
  l1 : ∀ i ∈ pd, 1 ≤ l i
  w1 : ∀ i ∈ pd, w i ≤ 1
  cl : ∀ i ∈ lf, ∀ j ∈ pd, ¬ Reach (Op n c) i j
  n1 : 1 ≤ N
  nb : N.natAbs ≤ 6000000000000 ^ m
  gw : ∀ i ∈ pd, Gq N (44 * m) (w i)
  gl : ∀ i ∈ pd, Gq N (44 * m) (l i)
  cnt : m + lf.length ≤ n
theorem pow6 (m : Nat) : 6000000000000 ^ m < 2 ^ (43 * m + 1) := by
  have : 6000000000000 ^ m ≤ (2 ^ 43) ^ m := Nat.pow_le_pow_left (by decide) m
  rw [← Nat.pow_mul] at this
  have h2 : 2 ^ (43 * m) < 2 ^ (43 * m + 1) := Nat.pow_lt_pow_right (by decide) (by omega)
  omega
section
variable {n : Nat} {c : CF} {m : Nat} {bw bl : List (Key × D)} {pd lf L : List Nat} {w l : WF} {N : Int}
theorem AW.lt (a : AW n c m bw bl pd lf w l N) (hc : Cst n c) (hne : lf ≠ []) : m ≤ 12 := by
  have h1 := a.cnt
  have h2 := hc.n13
  have : 0 < lf.length := List.length_pos_iff.mpr hne
  omega
theorem AW.sz {q : Rat} (a : AW n c m bw bl pd lf w l N) (hm : m ≤ 12) (g : Gq N (44 * m + 43) q) : SzQ 1200 q :=
  (g.sz a.n1 (Nat.lt_of_le_of_lt a.nb (pow6 m))).mono (by omega)
theorem sz_diff (hc : Cst n c) {i j : Nat} (hi : i < n) (hj : j < n) : (c i j - c i i).natAbs ≤ 6000000000000 := by
  have := hc.lo i j hi hj; have := hc.hi i j hi hj; have := hc.lo i i hi hi; have := hc.hi i i hi hi
  omega
/-- the worth of a level -/
theorem level_worth (a : AW n c m bw bl pd lf w l N) (hc : Cst n c) (hm : m ≤ 12) (hL : ∀ k ∈ L, k < n) (hLl : L.length ≤ 13) {ks : List Nat} (hk : ∀ v ∈ ks, v ∈ pd) :
    ∃ q, fold (fun s d => P.any_wish_L2 (.list (enI (natI L))) bw bl (enCm n c) s d) (ks.map fun (v : Nat) => PyData.int (v : Int)) (enQ 1) = some (enQ q) ∧ Gq N (44 * m + 43) q ∧ q ≤ 1 ∧ ∀ j ∈ ks, L ≠ [] → q ≤ w j ∧ ∀ k ∈ L, q ≤ w j + l j * ((c j k - c j j : Int) : Rat) := by
  have step : ∀ j, j ∈ pd → ∀ q, Gq N (44 * m + 43) q → ∃ q', P.any_wish_L2 (.list (enI (natI L))) bw bl (enCm n c) (enQ q) (.int (j : Int)) = some (enQ q') ∧ Gq N (44 * m + 43) q' ∧ q' ≤ q ∧ (L ≠ [] → q' ≤ w j) ∧ ∀ k ∈ L, q' ≤ w j + l j * ((c j k - c j j : Int) : Rat) := by
    intro j hj q gq
    have hjn := a.pn j hj
    have vw : valD bw (.inl (j : Int)) = some (enQ (w j)) := by rw [a.wd.val, enF, if_pos hj]
    have vl : valD bl (.inl (j : Int)) = some (enQ (l j)) := by rw [a.ld.val, enF, if_pos hj]
    have gw := a.gw j hj
    have gl := a.gl j hj
    have l0 : 0 ≤ l j := by have := a.l1 j hj; grind
    obtain ⟨s, h1, q', rfl, h2, h3, h4, h5⟩ := fold_map (step := fun s d => P.any_wish_L1 bw (.int (j : Int)) bl (enCm n c) s d) (fun (v : Nat) => PyData.int (v : Int)) (fun i s => ∃ q', s = enQ q' ∧ Gq N (44 * m + 43) q' ∧ q' ≤ q ∧ (i ≠ 0 → q' ≤ w j) ∧ ∀ t, t < i → ∀ k, L[t]? = some k → q' ≤ w j + l j * ((c j k - c j j : Int) : Rat)) L (enQ q) ⟨q, rfl, gq, by grind, by simp, fun t ht => by omega⟩ (by
      rintro i hi _ ⟨q', rfl, g', hq, hw', hall⟩
      obtain ⟨k, hkk⟩ : ∃ k, L[i] = k := ⟨_, rfl⟩
      have hkn : k < n := by rw [← hkk]; exact hL _ (List.getElem_mem hi)
      have gst := gq_step gw gl l0 (sz_diff hc hjn hkn)
      have szl := (a.sz hm (gl.mono (by omega)))
      have szw := (a.sz hm (gw.mono (by omega)))
      have t1 := p_times (p := l j) (k := c j k - c j j) (szl.mono (by decide)) (sz_int (k := 8000) (M := 6000000000000) (sz_diff hc hjn hkn) (Nat.lt_of_lt_of_le (by decide : 6000000000000 < 2 ^ 43) (Nat.pow_le_pow_right (by decide) (by decide))))
      have szt : SzQ 1243 (l j * ((c j k - c j j : Int) : Rat)) := szq_mulI szl (sz_int (k := 43) (M := 6000000000000) (sz_diff hc hjn hkn) (by decide))
      have t2 := p_plus (p := w j) (szw.mono (by decide)) (szt.mono (by decide))
      have szs := a.sz hm gst
      have t3 := p_lesser (p := w j + l j * ((c j k - c j j : Int) : Rat)) (q := w j) (szs.mono (by decide)) (szw.mono (by decide))
      obtain ⟨r, hr⟩ : ∃ r, (if w j < w j + l j * ((c j k - c j j : Int) : Rat) then w j else w j + l j * ((c j k - c j j : Int) : Rat)) = r := ⟨_, rfl⟩
      rw [hr] at t3
      have gr : Gq N (44 * m + 43) r := by rw [← hr]; split; exact gw.mono (by omega); exact gst
      have t4 := p_lesser (p := q') (q := r) ((a.sz hm g').mono (by decide)) ((a.sz hm gr).mono (by decide))
      have hr1 : r ≤ w j := by rw [← hr]; split <;> grind
      have hr2 : r ≤ w j + l j * ((c j k - c j j : Int) : Rat) := by rw [← hr]; split <;> grind
      refine ⟨enQ (if r < q' then r else q'), ?_, _, rfl, ?_, ?_, fun _ => ?_, fun t ht k' hk' => ?_⟩
      · unfold P.any_wish_L1
        rw [hkk]
        simp only [c_xdget, vw, vl, c_xop, ix_Cm hjn, c_ixl, at_rowC hkn, at_rowC hjn, c_sub, c_ap2, t1, t2, t3, t4, Option.bind_some]
      · split
        · exact gr
        · exact g'
      · split <;> grind
      · split <;> grind
      · by_cases e : t = i
        · subst e
          rw [List.getElem?_eq_getElem hi, hkk] at hk'
          cases hk'
          split <;> grind
        · have := hall t (by omega) k' hk'
          split <;> grind)
    refine ⟨q', ?_, h2, h3, fun hne => h4 (by have := List.length_pos_iff.mpr hne; omega), fun k hk => ?_⟩
    · unfold P.any_wish_L2
      rw [c_iseq1, Option.bind_some, natI_map, h1]; rfl
    · obtain ⟨t, ht, e⟩ := List.mem_iff_getElem.mp hk
      exact h5 t ht k (by rw [List.getElem?_eq_getElem ht, e])
  obtain ⟨s, h1, q', rfl, h2, h3, h4⟩ := fold_map (step := fun s d => P.any_wish_L2 (.list (enI (natI L))) bw bl (enCm n c) s d) (fun (v : Nat) => PyData.int (v : Int)) (fun i s => ∃ q', s = enQ q' ∧ Gq N (44 * m + 43) q' ∧ q' ≤ 1 ∧ ∀ t, t < i → ∀ j, ks[t]? = some j → (L ≠ [] → q' ≤ w j) ∧ ∀ k ∈ L, q' ≤ w j + l j * ((c j k - c j j : Int) : Rat)) ks (enQ 1) ⟨1, rfl, gq_one, by grind, fun t ht => by omega⟩ (by
    rintro i hi _ ⟨q', rfl, g', hq, hall⟩
    obtain ⟨j, hj⟩ : ∃ j, ks[i] = j := ⟨_, rfl⟩
    have hjp : j ∈ pd := by rw [← hj]; exact hk _ (List.getElem_mem hi)
    obtain ⟨q'', a1, a2, a3, a4, a5⟩ := step j hjp q' g'
    refine ⟨enQ q'', by rw [hj]; exact a1, q'', rfl, a2, by grind, fun t ht j' hj' => ?_⟩
    by_cases e : t = i
    · subst e
      rw [List.getElem?_eq_getElem hi, hj] at hj'
      cases hj'
      exact ⟨a4, a5⟩
    · obtain ⟨b1, b2⟩ := hall t (by omega) j' hj'
      exact ⟨fun z => by have := b1 z; grind, fun k hk => by have := b2 k hk; grind⟩)
  refine ⟨q', h1, h2, h3, fun j hj hne => ?_⟩
  obtain ⟨t, ht, e⟩ := List.mem_iff_getElem.mp hj
  have := h4 t ht j (by rw [List.getElem?_eq_getElem ht, e])
  exact ⟨this.1 hne, this.2⟩
/-- the weight of a level -/
theorem level_weight (a : AW n c m bw bl pd lf w l N) (hc : Cst n c) (hm : m ≤ 12) (hL : ∀ k ∈ L, k < n) (hLl : L.length ≤ 13) {ks : List Nat} (hk : ∀ v ∈ ks, v ∈ pd) {q : Rat} (gq : Gq N (44 * m + 43) q) (hpos : ∀ j ∈ pd, ∀ k ∈ L, c k k < c k j) :
    ∃ r, fold (fun s d => P.any_wish_L4 (.list (enI (natI L))) bw (enQ q) (enCm n c) s d) (ks.map fun (v : Nat) => PyData.int (v : Int)) (enQ 1) = some (enQ r) ∧ 1 ≤ r ∧ (r = 1 ∨ ∃ j ∈ pd, ∃ k ∈ L, r = (w j - q) / ((c k j - c k k : Int) : Rat)) ∧ ∀ j ∈ ks, ∀ k ∈ L, (w j - q) / ((c k j - c k k : Int) : Rat) ≤ r := by
  have szc : ∀ j ∈ pd, ∀ k ∈ L, SzQ 3000 ((w j - q) / ((c k j - c k k : Int) : Rat)) := fun j hj k hk => by
    have szw := (a.sz hm ((a.gw j hj).mono (by omega)))
    have := hpos j hj k hk
    exact (szq_divI (l := 43) (by omega) (szq_sub szw (a.sz hm gq)) (sz_int (M := 6000000000000) (sz_diff hc (hL k hk) (a.pn j hj)) (by decide))).mono (by decide)
  have szr : ∀ r, (r = 1 ∨ ∃ j ∈ pd, ∃ k ∈ L, r = (w j - q) / ((c k j - c k k : Int) : Rat)) → SzQ 3000 r := fun r hr => by
    rcases hr with rfl | ⟨j, hj, k, hk, rfl⟩
    · exact szq_one (by decide)
    · exact szc j hj k hk
  have step : ∀ j, j ∈ pd → ∀ r, 1 ≤ r → (r = 1 ∨ ∃ j ∈ pd, ∃ k ∈ L, r = (w j - q) / ((c k j - c k k : Int) : Rat)) → ∃ r', P.any_wish_L4 (.list (enI (natI L))) bw (enQ q) (enCm n c) (enQ r) (.int (j : Int)) = some (enQ r') ∧ r ≤ r' ∧ (r' = 1 ∨ ∃ j ∈ pd, ∃ k ∈ L, r' = (w j - q) / ((c k j - c k k : Int) : Rat)) ∧ ∀ k ∈ L, (w j - q) / ((c k j - c k k : Int) : Rat) ≤ r' := by
    intro j hj r hr1 hro
    have hjn := a.pn j hj
    have vw : valD bw (.inl (j : Int)) = some (enQ (w j)) := by rw [a.wd.val, enF, if_pos hj]
    have szw := (a.sz hm ((a.gw j hj).mono (by omega)))
    have szq := a.sz hm gq
    have t1 := p_minus (p := w j) (q := q) (szw.mono (by decide)) (szq.mono (by decide))
    have szm := szq_sub szw szq
    obtain ⟨s, h1, r', rfl, h2, h3, h4⟩ := fold_map (step := fun s d => P.any_wish_L3 bw (.int (j : Int)) (enQ q) (enCm n c) s d) (fun (v : Nat) => PyData.int (v : Int)) (fun i s => ∃ r', s = enQ r' ∧ r ≤ r' ∧ (r' = 1 ∨ ∃ j ∈ pd, ∃ k ∈ L, r' = (w j - q) / ((c k j - c k k : Int) : Rat)) ∧ ∀ t, t < i → ∀ k, L[t]? = some k → (w j - q) / ((c k j - c k k : Int) : Rat) ≤ r') L (enQ r) ⟨r, rfl, by grind, hro, fun t ht => by omega⟩ (by
      rintro i hi _ ⟨r', rfl, hq, ho, hall⟩
      obtain ⟨k, hkk⟩ : ∃ k, L[i] = k := ⟨_, rfl⟩
      have hkL : k ∈ L := by rw [← hkk]; exact List.getElem_mem hi
      have hkn := hL k hkL
      have hp := hpos j hj k hkL
      have t2 := p_over (p := w j - q) (k := c k j - c k k) (by omega) (szm.mono (by decide)) (sz_int (k := 90) (M := 6000000000000) (sz_diff hc hkn hjn) (by decide))
      have t3 := p_greater (p := r') (q := (w j - q) / ((c k j - c k k : Int) : Rat)) ((szr r' ho).mono (by decide)) ((szc j hj k hkL).mono (by decide))
      refine ⟨enQ (if r' < (w j - q) / ((c k j - c k k : Int) : Rat) then (w j - q) / ((c k j - c k k : Int) : Rat) else r'), ?_, _, rfl, ?_, ?_, fun t ht k' hk' => ?_⟩
      · unfold P.any_wish_L3
        rw [hkk]
        simp only [c_xdget, vw, c_xop, ix_Cm hkn, c_ixl, at_rowC hkn, at_rowC hjn, c_sub, c_ap2, t1, t2, t3, Option.bind_some]
      · split <;> grind
      · split
        · exact .inr ⟨j, hj, k, hkL, rfl⟩
        · exact ho
      · by_cases e : t = i
        · subst e
          rw [List.getElem?_eq_getElem hi, hkk] at hk'
          cases hk'
          split <;> grind
        · have := hall t (by omega) k' hk'
          split <;> grind)
    refine ⟨r', ?_, h2, h3, fun k hk => ?_⟩
    · unfold P.any_wish_L4
      rw [c_iseq1, Option.bind_some, natI_map, h1]; rfl
    · obtain ⟨t, ht, e⟩ := List.mem_iff_getElem.mp hk
      exact h4 t ht k (by rw [List.getElem?_eq_getElem ht, e])
  obtain ⟨s, h1, r', rfl, h2, h3, h4⟩ := fold_map (step := fun s d => P.any_wish_L4 (.list (enI (natI L))) bw (enQ q) (enCm n c) s d) (fun (v : Nat) => PyData.int (v : Int)) (fun i s => ∃ r', s = enQ r' ∧ 1 ≤ r' ∧ (r' = 1 ∨ ∃ j ∈ pd, ∃ k ∈ L, r' = (w j - q) / ((c k j - c k k : Int) : Rat)) ∧ ∀ t, t < i → ∀ j, ks[t]? = some j → ∀ k ∈ L, (w j - q) / ((c k j - c k k : Int) : Rat) ≤ r') ks (enQ 1) ⟨1, rfl, by grind, .inl rfl, fun t ht => by omega⟩ (by
    rintro i hi _ ⟨r', rfl, g', ho, hall⟩
    obtain ⟨j, hj⟩ : ∃ j, ks[i] = j := ⟨_, rfl⟩
    have hjp : j ∈ pd := by rw [← hj]; exact hk _ (List.getElem_mem hi)
    obtain ⟨r'', a1, a2, a3, a4⟩ := step j hjp r' g' ho
    refine ⟨enQ r'', by rw [hj]; exact a1, r'', rfl, by grind, a3, fun t ht j' hj' => ?_⟩
    by_cases e : t = i
    · subst e
      rw [List.getElem?_eq_getElem hi, hj] at hj'
      cases hj'
      exact a4
    · have b1 := hall t (by omega) j' hj'
      exact fun k hk => by have := b1 k hk; grind)
  refine ⟨r', h1, h2, h3, fun j hj => ?_⟩
  obtain ⟨t, ht, e⟩ := List.mem_iff_getElem.mp hj
  exact h4 t ht j (by rw [List.getElem?_eq_getElem ht, e])
end
end C
set_option exponentiation.threshold 100
namespace C
open PySem PySem.Spec PyProof.Rows L2 M N B

theorem notIn_nat (L : List Nat) (k : Nat) : op2 notInT (.int (k : Int)) (.list (enI (natI L))) = some (.bool (!decide (k ∈ L))) := by
  rw [op2, notIn_l]
  simp only [Option.bind_some, ev_pure]
  congr 3
  rw [decide_eq_decide]
  unfold natI
  constructor
  · intro h
    obtain ⟨x, hx, e⟩ := List.mem_map.mp h
    have : x = k := by omega
    rw [← this]; exact hx
  · intro h; exact List.mem_map.mpr ⟨k, h, rfl⟩
theorem ne_nil_nat (L : List Nat) : op2 M.neT (.list (enI (natI L))) (.list []) = some (.bool (!L.isEmpty)) := by
  rw [op2, ne_nil_ints]
  cases L <;> rfl
theorem pow_cast (k : Nat) : ((2 ^ (k + 1) : Nat) : Rat) = ((2 ^ k : Nat) : Rat) * 2 := by
  rw [Nat.pow_succ, Rat.natCast_mul]; rfl
open Classical in
set_option maxHeartbeats 4000000 in
theorem level_step {n : Nat} {c : CF} {m : Nat} {bw bl : List (Key × D)} {pd lf : List Nat} {w l : WF} {N : Int} (hc : Cst n c) (nb : ∀ k j, k < n → j < n → c k j < c k k → ¬ Reach (Op n c) j k) (a : AW n c m bw bl pd lf w l N) (hne : lf ≠ []) :
    ∃ s pd' lf' w' l' N', P.any_wish_L6 (enW (bRows n (opn c))) (enCm n c) bw bl (.list (enI (natI lf))) = some s ∧ s.2.2 = .list (enI (natI lf')) ∧ AW n c (m + 1) s.1 s.2.1 pd' lf' w' l' N' ∧ lf'.length < lf.length := by
  have n13 := hc.n13
  have hm := a.lt hc hne
  have hlfl : lf.length ≤ 13 := by have := a.cnt; omega
  obtain ⟨k0, hk0, htop, hmut⟩ := top_class (opn c) (by omega : n ≤ 100) hne a.ln (by omega)
  obtain ⟨L, hL⟩ : ∃ L, L = lf.filter fun j => decide (Reach (Wb n (opn c)) j k0) := ⟨_, rfl⟩
  rw [← hL] at htop
  have mL : ∀ j, j ∈ L ↔ j ∈ lf ∧ Reach (Op n c) j k0 := fun j => by rw [hL, List.mem_filter, decide_eq_true_eq]
  have hLn : ∀ k ∈ L, k < n := fun k hk => a.ln k ((mL k).mp hk).1
  have hLlen : L.length ≤ 13 := by rw [hL]; exact Nat.le_trans (List.length_filter_le _ _) hlfl
  have k0L : k0 ∈ L := (mL k0).mpr ⟨hk0, .refl⟩
  have Lne : L ≠ [] := List.ne_nil_of_mem k0L
  obtain ⟨ks, hks, mks, hksl, hksn⟩ := a.wd.keys
  have ksp : ∀ v, v ∈ ks ↔ v ∈ pd := fun v => by
    rw [mks v, enF]
    by_cases e : v ∈ pd <;> simp [e]
  have hpos : ∀ j ∈ pd, ∀ k ∈ L, c k k < c k j := by
    intro j hj k hk
    refine Classical.byContradiction fun hn => ?_
    have hkl := ((mL k).mp hk).1
    have hkj : k ≠ j := fun z => a.dis k hkl (z ▸ hj)
    refine a.cl k hkl j hj (.step .refl ⟨a.ln k hkl, a.pn j hj, ?_⟩)
    simp only [opn, decide_eq_true_eq]
    exact ⟨fun z => hkj z.symm, by omega⟩
  obtain ⟨q, hq, gq, q1, hqa⟩ := level_worth a hc hm hLn hLlen (ks := ks) (fun v hv => (ksp v).mp hv)
  obtain ⟨r, hr, r1, hro, hra⟩ := level_weight a hc hm hLn hLlen (ks := ks) (fun v hv => (ksp v).mp hv) gq hpos
  obtain ⟨lf', hlf'⟩ : ∃ l, l = lf.filter fun k => !decide (k ∈ L) := ⟨_, rfl⟩
  have mlf : ∀ j, j ∈ lf' ↔ j ∈ lf ∧ j ∉ L := fun j => by rw [hlf', List.mem_filter]; simp
  -- the new ones are put
  let w' : WF := fun v => if v ∈ L then q else w v
  let l' : WF := fun v => if v ∈ L then r else l v
  have put : ∀ ts : List Nat, (∀ x ∈ ts, x ∈ L) → ∀ (b1 b2 : List (Key × D)) (done : List Nat), Dk n b1 (enF (done ++ pd) w') → Dk n b2 (enF (done ++ pd) l') → ∃ s, fold (fun s d => P.any_wish_L5 (enQ q) (enQ r) s.1 s.2 d) (enI (natI ts)) (b1, b2) = some s ∧ ∃ done', (∀ v, v ∈ done' ↔ v ∈ done ∨ v ∈ ts) ∧ Dk n s.1 (enF (done' ++ pd) w') ∧ Dk n s.2 (enF (done' ++ pd) l') := by
    intro ts
    induction ts with
    | nil => intro _ b1 b2 done h1 h2; exact ⟨(b1, b2), rfl, done, by simp, h1, h2⟩
    | cons x t ih =>
      intro hs b1 b2 done h1 h2
      have hx := hs x List.mem_cons_self
      have hxn := hLn x hx
      obtain ⟨b1', p1, d1⟩ := h1.put hxn (by omega) (enQ q)
      obtain ⟨b2', p2, d2⟩ := h2.put hxn (by omega) (enQ r)
      have f1 : (fun i => if i = x then some (enQ q) else enF (done ++ pd) w' i) = enF ((x :: done) ++ pd) w' := by
        funext i
        by_cases e : i = x
        · subst e; simp only [if_true, enF]; rw [if_pos (by simp)]; simp [w', hx]
        · simp [e, enF]
      have f2 : (fun i => if i = x then some (enQ r) else enF (done ++ pd) l' i) = enF ((x :: done) ++ pd) l' := by
        funext i
        by_cases e : i = x
        · subst e; simp only [if_true, enF]; rw [if_pos (by simp)]; simp [l', hx]
        · simp [e, enF]
      rw [f1] at d1
      rw [f2] at d2
      obtain ⟨s, e1, done', e2, e3, e4⟩ := ih (fun y hy => hs y (List.mem_cons_of_mem _ hy)) b1' b2' (x :: done) d1 d2
      refine ⟨s, ?_, done', fun v => by rw [e2 v]; simp only [List.mem_cons]; grind, e3, e4⟩
      rw [show enI (natI (x :: t)) = .int (x : Int) :: enI (natI t) from rfl, fold]
      have : P.any_wish_L5 (enQ q) (enQ r) b1 b2 (.int (x : Int)) = some (b1', b2') := by
        unfold P.any_wish_L5
        simp only [Option.bind_some, p1, p2]
      simp only [this, Option.bind_some]
      exact e1
  have cong : ∀ (g g' : WF) (b : List (Key × D)), (∀ v ∈ pd, g v = g' v) → Dk n b (enF pd g) → Dk n b (enF ([] ++ pd) g') := fun g g' b hg hd => by
    have : enF pd g = enF ([] ++ pd) g' := by
      funext v
      simp only [enF, List.nil_append]
      by_cases e : v ∈ pd
      · rw [if_pos e, if_pos e, hg v e]
      · rw [if_neg e, if_neg e]
    rwa [this] at hd
  have pdL : ∀ v ∈ pd, v ∉ L := fun v hv z => a.dis v ((mL v).mp z).1 hv
  obtain ⟨⟨b1, b2⟩, hput, done, hdone, d1, d2⟩ := put L (fun _ h => h) bw bl [] (cong w w' bw (fun v hv => by simp [w', pdL v hv]) a.wd) (cong l l' bl (fun v hv => by simp [l', pdL v hv]) a.ld)
  have hdone : ∀ v, v ∈ done ↔ v ∈ L := fun v => by rw [hdone v]; simp
  have w'p : ∀ v ∈ pd, w' v = w v := fun v hv => by simp [w', pdL v hv]
  have l'p : ∀ v ∈ pd, l' v = l v := fun v hv => by simp [l', pdL v hv]
  have w'L : ∀ v ∈ L, w' v = q := fun v hv => by simp [w', hv]
  have l'L : ∀ v ∈ L, l' v = r := fun v hv => by simp [l', hv]
  have mem : ∀ v, v ∈ done ++ pd ↔ v ∈ L ∨ v ∈ pd := fun v => by rw [List.mem_append, hdone v]
  -- the new bottom
  obtain ⟨e, he1, he2, heI⟩ : ∃ e : Int, 1 ≤ e ∧ e ≤ 6000000000000 ∧ IsI ((N : Rat) * (e : Rat) * r) := by
    rcases hro with rfl | ⟨j, hj, k, hk, rfl⟩
    · exact ⟨1, by omega, by omega, N, by grind⟩
    · have hp := hpos j hj k hk
      have hh := sz_diff hc (hLn k hk) (a.pn j hj)
      refine ⟨c k j - c k k, by omega, by omega, ?_⟩
      have hne0 : ((c k j - c k k : Int) : Rat) ≠ 0 := by have := qpos (show 1 ≤ c k j - c k k by omega); grind
      have : (N : Rat) * ((c k j - c k k : Int) : Rat) * ((w j - q) / ((c k j - c k k : Int) : Rat)) = (N : Rat) * w j - (N : Rat) * q := by
        have := Rat.div_mul_cancel (a := w j - q) hne0
        grind
      rw [this]
      exact (a.gw j hj).i.sub gq.i
  have b44 : 44 * (m + 1) = 44 * m + 43 + 1 := by omega
  have up : ∀ x : Rat, Gq N (44 * m + 43) x → Gq (N * e) (44 * (m + 1)) x := fun x g => by
    have g' := g.mono (show 44 * m + 43 ≤ 44 * (m + 1) by omega)
    refine ⟨?_, g'.lo, g'.hi⟩
    have : ((N * e : Int) : Rat) * x = (N : Rat) * x * (e : Rat) := by rw [Rat.intCast_mul]; grind
    rw [this]
    exact g.i.mul (IsI.of e)
  have gr : Gq (N * e) (44 * (m + 1)) r := by
    refine ⟨by rw [Rat.intCast_mul]; exact heI, ?_, ?_⟩
    · have : (0 : Rat) < ((2 ^ (44 * (m + 1)) : Nat) : Rat) := by exact_mod_cast Nat.pow_pos (by decide)
      grind
    · have one : ((1 : Nat) : Rat) ≤ ((2 ^ (44 * m + 43) : Nat) : Rat) := by exact_mod_cast Nat.one_le_two_pow
      have h1 : ((1 : Nat) : Rat) = 1 := rfl
      have e2 : ((2 ^ (44 * (m + 1)) : Nat) : Rat) = ((2 ^ (44 * m + 43) : Nat) : Rat) * 2 := by rw [b44]; exact pow_cast _
      rw [e2]
      rcases hro with rfl | ⟨j, hj, k, hk, rfl⟩
      · grind
      · have hp := hpos j hj k hk
        have hd1 := qpos (show 1 ≤ c k j - c k k by omega)
        have hd2 : ((1 : Int) : Rat) ≤ ((c k j - c k k : Int) : Rat) := Rat.intCast_le_intCast.mpr (by omega)
        have h1' : ((1 : Int) : Rat) = 1 := rfl
        have hx : w j - q ≤ ((2 ^ (44 * m + 43) : Nat) : Rat) * 2 := by
          have := a.w1 j hj; have := gq.lo; grind
        refine Classical.byContradiction fun hn => ?_
        have hn : ((2 ^ (44 * m + 43) : Nat) : Rat) * 2 < (w j - q) / ((c k j - c k k : Int) : Rat) := by grind
        rw [Rat.lt_div_iff hd1] at hn
        have : ((2 ^ (44 * m + 43) : Nat) : Rat) * 2 * 1 ≤ ((2 ^ (44 * m + 43) : Nat) : Rat) * 2 * ((c k j - c k k : Int) : Rat) := Rat.mul_le_mul_of_nonneg_left (by grind) (by grind)
        grind
  refine ⟨(b1, b2, .list (enI (natI lf'))), done ++ pd, lf', w', l', N * e, ?_, rfl, ⟨d1, d2, ?_, ?_, ?_, ?_, ?_, ?_, ?_, ?_, ?_, ?_, ?_, ?_, ?_, ?_⟩, ?_⟩
  · have e1 : xlc (fun k_3 => xflt (xbool (xop notInT (some k_3) (some (.list (enI (natI L)))))) (some k_3)) (iseq (some (.list (enI (natI lf))))) = some (.list (enI (natI lf'))) := by
      rw [c_iseq1, natI_map lf, natI_map lf', xlc_of (fun (k : Nat) => PyData.int (k : Int)) (fun k => !decide (k ∈ L)) (fun (k : Nat) => PyData.int (k : Int)) lf (by unfold LIM; omega) (fun k hk => by
        simp only [c_xop, notIn_nat, c_xbool, xflt, c_xif, Option.map_some]
        split <;> rfl), hlf']
    unfold P.any_wish_L6
    rw [c_ap2, htop, Option.bind_some]
    simp only [c_xtup, c_xseq1, c_xseq0, Option.map_some, Option.bind_some, one_Q, hks, hq, hr, e1]
    simp only [c_iseq1, Option.bind_some, hput]
  · intro v hv
    rcases (mem v).mp hv with z | z
    · exact hLn v z
    · exact a.pn v z
  · exact fun v hv => a.ln v ((mlf v).mp hv).1
  · rw [hlf']; exact a.nd.filter _
  · intro v hv
    rcases a.all v hv with z | z
    · exact .inl ((mem v).mpr (.inr z))
    · by_cases hvL : v ∈ L
      · exact .inl ((mem v).mpr (.inl hvL))
      · exact .inr ((mlf v).mpr ⟨z, hvL⟩)
  · intro v hv z
    obtain ⟨h1, h2⟩ := (mlf v).mp hv
    rcases (mem v).mp z with z | z
    · exact h2 z
    · exact a.dis v h1 z
  · -- explained
    intro i hi j hj
    rcases (mem i).mp hi with hiL | hip
    · rw [w'L i hiL, l'L i hiL]
      rcases (mem j).mp hj with hjL | hjp
      · rw [w'L j hjL]
        -- on one level
        have hin := hLn i hiL
        have hjn := hLn j hjL
        have hji : Reach (Op n c) j i := reach_trans ((mL j).mp hjL).2 (hmut i ((mL i).mp hiL).1 ((mL i).mp hiL).2)
        have hge : c i i ≤ c i j := by
          refine Classical.byContradiction fun z => nb i j hin hjn (by omega) hji
        have h0 : (0 : Rat) ≤ ((c i j - c i i : Int) : Rat) := by
          rw [show (0 : Rat) = ((0 : Int) : Rat) from rfl]; exact Rat.intCast_le_intCast.mpr (by omega)
        have := Rat.mul_nonneg (show 0 ≤ r by grind) h0
        grind
      · rw [w'p j hjp]
        have hp := hpos j hjp i hiL
        have hd := qpos (show 1 ≤ c i j - c i i by omega)
        have := hra j ((ksp j).mpr hjp) i hiL
        have h2 : w j - q ≤ r * ((c i j - c i i : Int) : Rat) := by
          refine Classical.byContradiction fun z => ?_
          have z : r * ((c i j - c i i : Int) : Rat) < w j - q := by grind
          rw [← Rat.lt_div_iff hd] at z
          grind
        grind
    · rw [w'p i hip, l'p i hip]
      rcases (mem j).mp hj with hjL | hjp
      · rw [w'L j hjL]
        exact (hqa i ((ksp i).mpr hip) Lne).2 j hjL
      · rw [w'p j hjp]; exact a.ex i hip j hjp
  · intro i hi
    rcases (mem i).mp hi with z | z
    · rw [l'L i z]; exact r1
    · rw [l'p i z]; exact a.l1 i z
  · intro i hi
    rcases (mem i).mp hi with z | z
    · rw [w'L i z]; exact q1
    · rw [w'p i z]; exact a.w1 i z
  · intro i hi j hj hr'
    obtain ⟨h1, h2⟩ := (mlf i).mp hi
    rcases (mem j).mp hj with z | z
    · exact h2 ((mL i).mpr ⟨h1, reach_trans hr' ((mL j).mp z).2⟩)
    · exact a.cl i h1 j z hr'
  · have h1 := a.n1
    have : 0 < N * e := Int.mul_pos (by omega) (by omega)
    omega
  · rw [Int.natAbs_mul, Nat.pow_succ]
    exact Nat.mul_le_mul a.nb (by omega)
  · intro i hi
    rcases (mem i).mp hi with z | z
    · rw [w'L i z]; exact up q gq
    · rw [w'p i z]; exact up _ ((a.gw i z).mono (by omega))
  · intro i hi
    rcases (mem i).mp hi with z | z
    · rw [l'L i z]; exact gr
    · rw [l'p i z]; exact up _ ((a.gl i z).mono (by omega))
  · have hlt : lf'.length < lf.length := by
      rw [hlf']
      have := filter_lt (p := fun k => !decide (k ∈ L)) (q := fun _ => true) (l := lf) (fun _ _ _ => rfl) ⟨k0, hk0, rfl, by simp [k0L]⟩
      rwa [List.filter_eq_self.mpr (fun _ _ => rfl)] at this
    have := a.cnt
    omega
  · rw [hlf']
    have := filter_lt (p := fun k => !decide (k ∈ L)) (q := fun _ => true) (l := lf) (fun _ _ _ => rfl) ⟨k0, hk0, rfl, by simp [k0L]⟩
    rwa [List.filter_eq_self.mpr (fun _ _ => rfl)] at this
end C
set_option exponentiation.threshold 100
namespace C
open PySem PySem.Spec PyProof.Rows L2 M N B

theorem natI_range (n : Nat) : enI (natI (List.range n)) = rangeD 0 (n : Int) := by rw [natI_map, rangeD_map]
theorem any_wish {n : Nat} {c : CF} (hc : Cst n c) (nb : ∀ k j, k < n → j < n → c k j < c k k → ¬ Reach (Op n c) j k) :
    ∃ w l, P.any_wish (enCm n c) (enW (bRows n (opn c))) = some (.tuple [.list (wl n w), .list (wl n l)]) ∧ Exp n c w l ∧ ∀ v, v < n → SzQ 1140 (w v) ∧ SzQ 1140 (l v) := by
  have n13 := hc.n13
  have hl : (n : Int) ≤ 1000000 ∧ -1000000 ≤ (n : Int) := by omega
  have start : AW n c 0 [] [] [] (List.range n) (fun _ => 0) (fun _ => 0) 1 := ⟨Dk.nil n, Dk.nil n, by simp, fun v hv => List.mem_range.mp hv, List.nodup_range, fun v hv => .inr (List.mem_range.mpr hv), by simp, by simp, by simp, by simp, by simp, by omega, by simp, by simp, by simp, by simp⟩
  obtain ⟨s, h1, ⟨m, pd, lf, w, l, N, e, a⟩, h3⟩ := whl_meas (cnd := fun s => P.any_wish_C6 s.1 s.2.1 s.2.2) (step := fun s => P.any_wish_L6 (enW (bRows n (opn c))) (enCm n c) s.1 s.2.1 s.2.2)
    (fun s : List (Key × D) × List (Key × D) × D => ∃ m pd lf w l N, s.2.2 = .list (enI (natI lf)) ∧ AW n c m s.1 s.2.1 pd lf w l N)
    (fun s => match s.2.2 with | .list ds => ds.length | _ => 0) (by
      rintro ⟨b1, b2, d⟩ ⟨m, pd, lf, w, l, N, e, a⟩
      simp only at e a
      subst e
      have hcn : P.any_wish_C6 b1 b2 (.list (enI (natI lf))) = some (!lf.isEmpty) := by
        unfold P.any_wish_C6
        simp only [c_xlst, c_xseq0, Option.map_some, c_xop, ne_nil_nat, c_xbool]
      cases lf with
      | nil => left; exact hcn
      | cons x r =>
        right
        refine ⟨hcn, ?_⟩
        obtain ⟨s, pd', lf', w', l', N', p1, p2, p3, p4⟩ := level_step hc nb a (by simp)
        refine ⟨s, p1, ⟨m + 1, pd', lf', w', l', N', p2, p3⟩, ?_⟩
        simp only [p2]
        simpa [enI, natI] using p4) FUEL ([], [], .list (enI (natI (List.range n)))) ⟨0, _, _, _, _, _, rfl, start⟩ (by simp [enI, natI, FUEL]; omega)
  obtain ⟨b1, b2, d⟩ := s
  simp only at e a
  subst e
  have hcn : P.any_wish_C6 b1 b2 (.list (enI (natI lf))) = some (!lf.isEmpty) := by
    unfold P.any_wish_C6
    simp only [c_xlst, c_xseq0, Option.map_some, c_xop, ne_nil_nat, c_xbool]
  have h3 : P.any_wish_C6 b1 b2 (.list (enI (natI lf))) = some false := h3
  rw [hcn] at h3
  have lnil : lf = [] := by
    cases lf with
    | nil => rfl
    | cons x r => simp at h3
  subst lnil
  have full : ∀ v, v < n → v ∈ pd := fun v hv => by
    rcases a.all v hv with z | z
    · exact z
    · simp at z
  have m13 : m ≤ 13 := by have := a.cnt; simp at this; omega
  have szall : ∀ q, Gq N (44 * m) q → SzQ 1140 q := fun q g => (g.sz a.n1 (Nat.lt_of_le_of_lt a.nb (pow6 m))).mono (by omega)
  refine ⟨w, l, ?_, fun i hi => ⟨?_, fun j hj => a.ex i (full i hi) j (full j hj)⟩, fun v hv => ⟨szall _ (a.gw v (full v hv)), szall _ (a.gl v (full v hv))⟩⟩
  · have e1 : xmap (fun k_6 => xdget b1 (some k_6)) (some (rangeD 0 (n : Int))) = some (.list (wl n w)) := xmap_range n _ (by unfold LIM; omega) fun i hi => by
      rw [c_xdget, a.wd.val, enF, if_pos (full i hi)]
    have e2 : xmap (fun k_5 => xdget b2 (some k_5)) (some (rangeD 0 (n : Int))) = some (.list (wl n l)) := xmap_range n _ (by unfold LIM; omega) fun i hi => by
      rw [c_xdget, a.ld.val, enF, if_pos (full i hi)]
    unfold P.any_wish
    simp only [Option.bind_some, c_xf1, len_Cm, ev_pure, c_xlistR, hl, and_self, if_true]
    rw [natI_range] at h1
    rw [h1]
    simp only [Option.bind_some, c_iseq1, e1, e2, c_xtup, c_xseq1, c_xseq0, Option.map_some]
  · have := a.l1 i (full i hi); grind
theorem told_any {n : Nat} {c : CF} (hc : Cst n c) : ∃ r, P.told_any (enCm n c) = some r ∧ Told .any n c r := by
  have n13 := hc.n13
  have ho := open_ways (c := c) (by omega : n ≤ 100)
  unfold P.told_any
  rw [c_ap1, ho, Option.bind_some]
  rcases barring_round hc with ⟨p, h1, h2, h3⟩ | ⟨h1, h2⟩
  · refine ⟨roundD p, ?_, .round p h2 h3⟩
    simp only [c_ap2, h1, Option.bind_some, c_xop, c_notnl, c_xbool, c_xif_t, c_xtup, c_xseq1, c_xseq0, Option.map_some, roundD]
  · obtain ⟨w, l, e1, e2, e3⟩ := any_wish hc h2
    refine ⟨wishD n w l, ?_, .wish w l e2 trivial e3⟩
    simp only [c_ap2, h1, Option.bind_some, c_xop, c_notn0, c_xbool, c_xif_f, c_xtup, c_xseq1, c_xseq0, Option.map_some, e1, wishD]
/-- told_by, whole -/
theorem told_by {n : Nat} {bk : List Buy} (k : Kd) (v : ValidBook n bk) (h13 : bk.length ≤ 13) : ∃ r, P.told_by (enBk bk) (.str k.str) = some r ∧ Told k bk.length (cM bk) r := by
  cases k with
  | any =>
    obtain ⟨r, h1, h2⟩ := told_any (v.cst h13)
    refine ⟨r, ?_, h2⟩
    unfold P.told_by
    have hc := p_costs v (by omega)
    have e : op2 M.eqT (.str Kd.any.str) (.str "any") = some (.bool true) := by
      rw [show Kd.any.str = ("any" : Str) from rfl, eqs (by decide +kernel) (by decide +kernel)]; rfl
    simp only [c_ap1, hc, Option.bind_some, c_xop, e, c_xbool, c_xif_t, h1]
  | even => exact told_es false v h13
  | scaled => exact told_es true v h13
end C
namespace C
open PySem PySem.Spec PyProof.Rows L2 M N B

section
variable {n : Nat} {c : CF} {w l : WF}
/-- along open steps worths do not rise -/
theorem any_way (h : Exp n c w l) : ∀ {p : List Nat} {a b : Nat}, (∀ x ∈ p, x < n) → p.getLast? = some b → b < n → a < n → LeAll (clos c a p) (owns c p) → ∀ x, p.head? = some x → w a ≤ w x ∧ (clos c a p ≠ owns c p → w a < w x)
  | [], _, _, _, h, _, _, _, _, _ => by simp at h
  | [x], a, b, hp, hb, _, ha, hl, y, hy => by
    simp at hb hy; subst hb hy
    have hx := hp x (by simp)
    have e := (h x hx).2 a ha
    have l0 := (h x hx).1
    simp only [clos, owns, List.map_cons, List.map_nil, LeAll, and_true] at hl
    have hd : ((c x a - c x x : Int) : Rat) ≤ 0 := by
      rw [show (0 : Rat) = ((0 : Int) : Rat) from rfl]; exact Rat.intCast_le_intCast.mpr (by omega)
    have hm := Rat.mul_le_mul_of_nonneg_left hd (show 0 ≤ l x by grind)
    refine ⟨by grind, fun hne => ?_⟩
    have hlt : c x a < c x x := by
      have : c x a ≠ c x x := fun z => hne (by simp [clos, owns, z])
      omega
    have hd' : ((c x a - c x x : Int) : Rat) < ((0 : Int) : Rat) := Rat.intCast_lt_intCast.mpr (by omega)
    have := Rat.mul_lt_mul_of_pos_left hd' l0
    have z0 : ((0 : Int) : Rat) = 0 := rfl
    grind
  | x :: y :: r, a, b, hp, hb, hbn, ha, hl, z, hz => by
    simp at hz; subst hz
    have hx := hp x (by simp)
    have hy := hp y (by simp)
    have ih := any_way h (p := y :: r) (a := a) (b := b) (fun q hq => hp q (List.mem_cons_of_mem _ hq)) (by simpa using hb) hbn ha hl.2 y rfl
    have h1 : c x y ≤ c x x := hl.1
    have e := (h x hx).2 y hy
    have l0 := (h x hx).1
    have hd : ((c x y - c x x : Int) : Rat) ≤ 0 := by
      rw [show (0 : Rat) = ((0 : Int) : Rat) from rfl]; exact Rat.intCast_le_intCast.mpr (by omega)
    have hm := Rat.mul_le_mul_of_nonneg_left hd (show 0 ≤ l x by grind)
    refine ⟨by grind, fun hne => ?_⟩
    by_cases e2 : clos c a (y :: r) = owns c (y :: r)
    · have hlt : c x y < c x x := by
        have : c x y ≠ c x x := fun q => hne (by
          show c x y :: clos c a (y :: r) = c x x :: owns c (y :: r)
          rw [q, e2])
        omega
      have hd' : ((c x y - c x x : Int) : Rat) < ((0 : Int) : Rat) := Rat.intCast_lt_intCast.mpr (by omega)
      have := Rat.mul_lt_mul_of_pos_left hd' l0
      have z0 : ((0 : Int) : Rat) = 0 := rfl
      grind
    · have := ih.2 e2; grind
theorem even_sum (h : Exp n c w l) (hl : ∀ i, i < n → l i = 1) : ∀ {p : List Nat} {a b : Nat}, (∀ x ∈ p, x < n) → p.head? = some a → p.getLast? = some b → w b ≤ w a + (sumS c p : Rat)
  | [], _, _, _, h, _ => by simp at h
  | [x], a, b, _, h1, h2 => by simp at h1 h2; subst h1 h2; simp only [sumS]; grind
  | x :: y :: r, a, b, hp, h1, h2 => by
    simp at h1; subst h1
    have hx := hp x (by simp)
    have hy := hp y (by simp)
    have ih := even_sum h hl (p := y :: r) (a := y) (b := b) (fun q hq => hp q (List.mem_cons_of_mem _ hq)) rfl (by simpa using h2)
    have e := (h x hx).2 y hy
    rw [hl x hx] at e
    have hc : (sumS c (x :: y :: r) : Rat) = ((c x y - c x x : Int) : Rat) + (sumS c (y :: r) : Rat) := by simp only [sumS]; norm_cast
    rw [hc]; grind
theorem scaled_prod (hc : Cst n c) (h : Exp n c w l) (hl : ∀ i, i < n → 0 < w i ∧ w i = l i * (c i i : Rat)) : ∀ {p : List Nat} {a b : Nat}, (∀ x ∈ p, x < n) → p.head? = some a → p.getLast? = some b → w b * (prodO c p : Rat) ≤ w a * (prodT c p : Rat)
  | [], _, _, _, h, _ => by simp at h
  | [x], a, b, _, h1, h2 => by simp at h1 h2; subst h1 h2; simp [prodT, prodO]
  | x :: y :: r, a, b, hp, h1, h2 => by
    simp at h1; subst h1
    have hx := hp x (by simp)
    have hy := hp y (by simp)
    have hp' : ∀ z ∈ y :: r, z < n := fun q hq => hp q (List.mem_cons_of_mem _ hq)
    have ih := scaled_prod hc h hl (p := y :: r) (a := y) (b := b) hp' rfl (by simpa using h2)
    have e := (h x hx).2 y hy
    have ex := (hl x hx).2
    have hT : (prodT c (x :: y :: r) : Rat) = (c x y : Rat) * (prodT c (y :: r) : Rat) := by simp only [prodT]; norm_cast
    have hO : (prodO c (x :: y :: r) : Rat) = (c x x : Rat) * (prodO c (y :: r) : Rat) := by simp only [prodO]; norm_cast
    have cxx := qpos (hc.lo x x hx hx)
    have pt : (0 : Rat) < (prodT c (y :: r) : Rat) := by exact_mod_cast prodT_pos hc hp'
    rw [hT, hO]
    have e1 : w y ≤ l x * (c x y : Rat) := by rw [Rat.intCast_sub] at e; grind
    have e2 : w y * (c x x : Rat) ≤ w x * (c x y : Rat) := by
      have := Rat.mul_le_mul_of_nonneg_right e1 (show (0 : Rat) ≤ (c x x : Rat) by grind)
      rw [ex]; grind
    have m1 := Rat.mul_le_mul_of_nonneg_left ih (show (0 : Rat) ≤ (c x x : Rat) by grind)
    have m2 := Rat.mul_le_mul_of_nonneg_right e2 (show (0 : Rat) ≤ (prodT c (y :: r) : Rat) by grind)
    grind
end
/-- lemma A -/
theorem not_both {k : Kd} {n : Nat} {c : CF} (hc : Cst n c) {w l : WF} (h : Exp n c w l) (hk : KOk k n c w l) {p : List Nat} (hr : IsRnd n p) : ¬ Bars k c p := by
  intro hb
  have hp := hr.len
  obtain ⟨a, ha⟩ : ∃ a, p.head? = some a := by cases p with | nil => simp at hp | cons x r => exact ⟨x, rfl⟩
  obtain ⟨b, hla⟩ : ∃ b, p.getLast? = some b := by
    cases e : p.getLast? with
    | none => rw [List.getLast?_eq_none_iff] at e; subst e; simp at hp
    | some b => exact ⟨b, rfl⟩
  have han := hr.lt a (List.mem_of_head? ha)
  have hbn := hr.lt b (List.mem_of_getLast? hla)
  have hd : p.headD 0 = a := by rw [List.headD_eq_head?_getD, ha]; rfl
  cases k with
  | any =>
    simp only [Bars, steps, hd] at hb
    have := (any_way h hr.lt hla hbn han hb.1 a ha).2 hb.2
    grind
  | even =>
    simp only [Bars, steps, hd] at hb
    have hs := clos_sum c a hla
    have h1 := even_sum h hk hr.lt ha hla
    have h2 := (h b hbn).2 a han
    rw [hk b hbn] at h2
    have : (sumS c p + (c b a - c b b) : Int) < 0 := by omega
    have h3 : ((sumS c p + (c b a - c b b) : Int) : Rat) < ((0 : Int) : Rat) := Rat.intCast_lt_intCast.mpr this
    rw [Rat.intCast_add] at h3
    have z0 : ((0 : Int) : Rat) = 0 := rfl
    grind
  | scaled =>
    simp only [Bars, steps, hd] at hb
    rw [clos_prod c a hla, owns_prod c hla] at hb
    have h1 := scaled_prod hc h hk hr.lt ha hla
    have h2 := (h b hbn).2 a han
    have eb := (hk b hbn).2
    have wb := (hk b hbn).1
    have cbb := qpos (hc.lo b b hbn hbn)
    have pO : (0 : Rat) < (prodO c p : Rat) := by exact_mod_cast prodO_pos hc hr.lt
    have pT : (0 : Rat) < (prodT c p : Rat) := by exact_mod_cast prodT_pos hc hr.lt
    have e1 : w a ≤ l b * (c b a : Rat) := by rw [Rat.intCast_sub] at h2; grind
    have e2 : w a * (c b b : Rat) ≤ w b * (c b a : Rat) := by
      have := Rat.mul_le_mul_of_nonneg_right e1 (show (0 : Rat) ≤ (c b b : Rat) by grind)
      rw [eb]; grind
    have hb' : ((prodT c p * c b a : Int) : Rat) < ((prodO c p * c b b : Int) : Rat) := Rat.intCast_lt_intCast.mpr hb
    rw [Rat.intCast_mul, Rat.intCast_mul] at hb'
    have m1 := Rat.mul_le_mul_of_nonneg_right h1 (show (0 : Rat) ≤ (c b b : Rat) by grind)
    have m2 := Rat.mul_le_mul_of_nonneg_right e2 (show (0 : Rat) ≤ (prodT c p : Rat) by grind)
    have m3 := Rat.mul_lt_mul_of_pos_left hb' wb
    grind
/-- has_wish -/
theorem has_wish {n : Nat} {bk : List Buy} (k : Kd) (v : ValidBook n bk) (h13 : bk.length ≤ 13) : ∃ b, P.has_wish (enBk bk) (.str k.str) = some (.bool b) ∧ (b = true ↔ HasW k bk.length (cM bk)) := by
  obtain ⟨r, h1, h2⟩ := told_by k v h13
  have hw : op2 M.eqT (.str "wish") (.str "wish") = some (.bool true) := by rw [eqs (by decide +kernel) (by decide +kernel)]; rfl
  have hr : op2 M.eqT (.str "round") (.str "wish") = some (.bool false) := by rw [eqs (by decide +kernel) (by decide +kernel)]; rfl
  unfold P.has_wish
  cases h2 with
  | wish w l e ko sz =>
    refine ⟨true, ?_, by simp only [true_iff]; exact ⟨w, l, e, ko⟩⟩
    have : op2 idxT (wishD bk.length w l) (.int 0) = some (.str "wish") := rfl
    simp only [c_ap2, h1, c_xop, this, hw]
  | round p rnd ba =>
    refine ⟨false, ?_, by simp only [Bool.false_eq_true, false_iff]; exact fun ⟨w, l, e, ko⟩ => not_both (v.cst h13) e ko rnd ba⟩
    have : op2 idxT (roundD p) (.int 0) = some (.str "round") := rfl
    simp only [c_ap2, h1, c_xop, this, hr]
end C
namespace C
open PySem PySem.Spec PyProof.Rows L2 M N B

section
variable {k : Kd} {n m : Nat} {c c' : CF}
/-- under other numbers -/
theorem HasW.pull (h : HasW k n c) (f : Nat → Nat) (hf : ∀ i, i < m → f i < n) (hc : ∀ i j, i < m → j < m → c' i j = c (f i) (f j)) : HasW k m c' := by
  obtain ⟨w, l, e, ko⟩ := h
  refine ⟨fun i => w (f i), fun i => l (f i), fun i hi => ⟨(e (f i) (hf i hi)).1, fun j hj => ?_⟩, ?_⟩
  · rw [hc i j hi hj, hc i i hi hi]
    exact (e (f i) (hf i hi)).2 (f j) (hf j hj)
  · cases k with
    | any => trivial
    | even => exact fun i hi => ko (f i) (hf i hi)
    | scaled => exact fun i hi => by rw [hc i i hi hi]; exact ko (f i) (hf i hi)
theorem HasW.any (h : HasW k n c) : HasW .any n c := by
  obtain ⟨w, l, e, _⟩ := h
  exact ⟨w, l, e, trivial⟩
/-- the rows so many times as great: any, scaled -/
theorem HasW.rows (h : HasW k n c) (hk : k ≠ .even) (s : Nat → Rat) (hs : ∀ i, i < n → 0 < s i) (hc : ∀ i j, i < n → j < n → (c' i j : Rat) = s i * (c i j : Rat)) : HasW k n c' := by
  obtain ⟨w, l, e, ko⟩ := h
  have key : ∀ i, i < n → l i / s i * s i = l i := fun i hi => Rat.div_mul_cancel (by have := hs i hi; grind)
  refine ⟨w, fun i => l i / s i, fun i hi => ⟨?_, fun j hj => ?_⟩, ?_⟩
  · rw [Rat.lt_div_iff (hs i hi), Rat.zero_mul]; exact (e i hi).1
  · have h1 := (e i hi).2 j hj
    rw [Rat.intCast_sub] at h1 ⊢
    rw [hc i j hi hj, hc i i hi hi]
    have h2 := key i hi
    show w j ≤ w i + l i / s i * (s i * (c i j : Rat) - s i * (c i i : Rat))
    generalize l i / s i = t at h2 ⊢
    have e2 : t * (s i * (c i j : Rat) - s i * (c i i : Rat)) = t * s i * ((c i j : Rat) - (c i i : Rat)) := by grind
    rw [e2, h2]; exact h1
  · cases k with
    | any => trivial
    | even => exact absurd rfl hk
    | scaled =>
      intro i hi
      refine ⟨(ko i hi).1, ?_⟩
      rw [hc i i hi hi]
      have h2 := key i hi
      have h3 := (ko i hi).2
      show w i = l i / s i * (s i * (c i i : Rat))
      generalize l i / s i = t at h2 ⊢
      rw [← Rat.mul_assoc, h2]; exact h3
/-- all so many times as great -/
theorem HasW.all (h : HasW k n c) (s : Rat) (hs : 0 < s) (hc : ∀ i j, i < n → j < n → (c' i j : Rat) = s * (c i j : Rat)) : HasW k n c' := by
  by_cases hk : k = .even
  · subst hk
    obtain ⟨w, l, e, ko⟩ := h
    refine ⟨fun i => s * w i, l, fun i hi => ⟨(e i hi).1, fun j hj => ?_⟩, ko⟩
    have h1 := (e i hi).2 j hj
    rw [ko i hi] at h1 ⊢
    rw [Rat.intCast_sub] at h1 ⊢
    rw [hc i j hi hj, hc i i hi hi]
    have := Rat.mul_le_mul_of_nonneg_left h1 (show 0 ≤ s by grind)
    grind
  · exact h.rows hk (fun _ => s) (fun _ _ => hs) hc
end
end C
namespace C
open PySem PySem.Spec PyProof.Rows L2 M N B

/-- a loop that tells one for each item -/
theorem fold_app {α : Type} {step : List D → D → Option (List D)} (en : α → D) (f : α → D) : ∀ (xs : List α) (acc : List D), (∀ x ∈ xs, ∀ acc : List D, acc.length < acc.length + xs.length → acc.length ≤ 1000 → step acc (en x) = some (acc ++ [f x])) → acc.length + xs.length ≤ 1000 → fold step (xs.map en) acc = some (acc ++ xs.map f)
  | [], acc, _, _ => by simp [fold]
  | x :: r, acc, h, hl => by
    simp only [List.map_cons, fold]
    simp only [List.length_cons] at hl
    rw [h x List.mem_cons_self acc (by simp only [List.length_cons]; omega) (by omega), Option.bind_some, fold_app en f r (acc ++ [f x]) (fun y hy acc' h1 h2 => h y (List.mem_cons_of_mem _ hy) acc' (by simp only [List.length_cons]; omega) h2) (by simp; omega)]
    simp
theorem apd_of {acc : List D} {y : D} (h : acc.length ≤ 1000) : apd acc y = some (acc ++ [y]) := by
  unfold apd
  rw [if_pos (by unfold LIM; omega)]
def timesB (by' : Int) (side : Bool) (b : Buy) : Buy := if side then (b.1, b.2.map fun x => x * by') else (b.1.map fun x => x * by', b.2)
end C
namespace C
open PySem PySem.Spec PyProof.Rows L2 M N B

theorem dot_mul_r (k : Int) : ∀ ps as : List Int, dot ps (as.map fun a => a * k) = k * dot ps as
  | [], _ => by simp [dot]
  | _ :: _, [] => by simp [dot]
  | p :: ps, a :: as => by simp only [List.map_cons, dot, dot_mul_r k ps as]; grind
theorem cM_map {bk : List Buy} (f : Buy → Buy) {i j : Nat} (hi : i < bk.length) (hj : j < bk.length) : cM (bk.map f) i j = dot (f bk[i]).1 (f bk[j]).2 := by
  rw [cM_eq (by simpa using hi) (by simpa using hj)]; simp
/-- books of the same buyings -/
theorem HasW.of_sub {k : Kd} {bk bk' : List Buy} (h : HasW k bk.length (cM bk)) (hs : ∀ b ∈ bk', b ∈ bk) : HasW k bk'.length (cM bk') := by
  have hx : ∀ i, i < bk'.length → ∃ j, ∃ (h : j < bk.length), bk'[i]? = some bk[j] := fun i hi => by
    obtain ⟨j, hj, e⟩ := List.mem_iff_getElem.mp (hs _ (List.getElem_mem hi))
    exact ⟨j, hj, by rw [List.getElem?_eq_getElem hi, e]⟩
  classical
  let f : Nat → Nat := fun i => if h : i < bk'.length then Classical.choose (hx i h) else 0
  have hf : ∀ i (hi : i < bk'.length), ∃ (h : f i < bk.length), bk'[i] = bk[f i] := fun i hi => by
    have e : f i = Classical.choose (hx i hi) := dif_pos hi
    obtain ⟨h1, h2⟩ := Classical.choose_spec (hx i hi)
    refine ⟨by rw [e]; exact h1, ?_⟩
    have h3 : some bk'[i] = some (bk[Classical.choose (hx i hi)]'h1) := (List.getElem?_eq_getElem hi).symm.trans h2
    have h4 := Option.some.inj h3
    rw [h4]
    congr 1
    exact e.symm
  refine h.pull f (fun i hi => (hf i hi).1) fun i j hi hj => ?_
  obtain ⟨a1, a2⟩ := hf i hi
  obtain ⟨b1, b2⟩ := hf j hj
  rw [cM_eq hi hj, cM_eq a1 b1, a2, b2]
theorem hasW_same {k : Kd} {bk bk' : List Buy} (h : ∀ b, b ∈ bk' ↔ b ∈ bk) : HasW k bk'.length (cM bk') ↔ HasW k bk.length (cM bk) :=
  ⟨fun z => z.of_sub fun b hb => (h b).mpr hb, fun z => z.of_sub fun b hb => (h b).mp hb⟩
end C
namespace C
open PySem PySem.Spec PyProof.Rows L2 M N B

end C
namespace C
open PySem PySem.Spec PyProof.Rows L2 M N B

@[simp] theorem c_ltB {p q : Bool} : op2 ltBT (.bool p) (.bool q) = some (.bool (ltB p q)) := (rfl)
end C
namespace C
open PySem PySem.Spec PyProof.Rows L2 M N B

end C
namespace C
open PySem PySem.Spec PyProof.Rows L2 M N B

end C
namespace C
open PySem PySem.Spec PyProof.Rows L2 M N B

section
variable (k : Kd)
end

def qs (ws : List Rat) : D := .list (ws.map enQ)
def gq (ws : List Rat) : WF := fun i => ws.getD i 0
theorem len_Bk (bk : List Buy) : (lenT [.p (enBk bk)]).bind T.pure? = some (.int bk.length) := by simp [enBk, lenT, T.kids, T.pure?, T.seq?, T.lst?, T.tup?]

def SzL (k : Nat) (ws : List Rat) : Prop := ∀ q ∈ ws, SzQ k q
theorem SzL.gq {k : Nat} {ws : List Rat} (h : SzL k ws) {i : Nat} (hi : i < ws.length) : SzQ k (gq ws i) := by
  unfold C.gq
  rw [List.getD_eq_getElem?_getD, List.getElem?_eq_getElem hi]
  exact h _ (List.getElem_mem hi)
end C
namespace C
open PySem PySem.Spec PyProof.Rows L2 M N B

theorem num_den (q : Rat) : (q.num : Rat) / (q.den : Rat) = q := by
  have h : q = Rat.divInt q.num q.den := by rw [Rat.divInt_ofNat, Rat.mkRat_self]
  have h2 := Rat.divInt_eq_div q.num q.den
  rw [← h] at h2
  exact h2.symm
theorem den_rat (q : Rat) : (q.den : Rat) ≠ 0 := by have := q.den_nz; exact_mod_cast this
theorem den_ne0 (q : Rat) : (q.den : Int) ≠ 0 := by have := q.den_nz; omega
section
variable {n m : Nat} {c c' : CF} {w l w' l' : WF}
theorem Exp.more (h : Exp n c w l) (x : Rat) : Exp n c (fun i => w i + x) l := fun i hi => ⟨(h i hi).1, fun j hj => by have := (h i hi).2 j hj; grind⟩
theorem Exp.mul (h : Exp n c w l) {q : Rat} (hq : 0 < q) : Exp n c (fun i => w i * q) (fun i => l i * q) := fun i hi => ⟨Rat.mul_pos (h i hi).1 hq, fun j hj => by
  have h1 := (h i hi).2 j hj
  have h2 := Rat.mul_le_mul_of_nonneg_right h1 (by grind : 0 ≤ q)
  grind⟩
theorem Exp.pull (h : Exp n c w l) (f : Nat → Nat) (hf : ∀ i, i < m → f i < n) (hc : ∀ i j, i < m → j < m → c' i j = c (f i) (f j)) : Exp m c' (fun i => w (f i)) (fun i => l (f i)) := fun i hi =>
  ⟨(h _ (hf i hi)).1, fun j hj => by rw [hc i j hi hj, hc i i hi hi]; exact (h _ (hf i hi)).2 _ (hf j hj)⟩
theorem Exp.congr (h : Exp n c w l) (hw : ∀ i, i < n → w' i = w i) (hl : ∀ i, i < n → l' i = l i) : Exp n c w' l' := fun i hi => by
  rw [hl i hi, hw i hi]
  exact ⟨(h i hi).1, fun j hj => by rw [hw j hj]; exact (h i hi).2 j hj⟩
theorem KOk.congr {k : Kd} (h : KOk k n c w l) (hw : ∀ i, i < n → w' i = w i) (hl : ∀ i, i < n → l' i = l i) : KOk k n c w' l' := by
  cases k with
  | any => trivial
  | even => exact fun i hi => by rw [hl i hi]; exact h i hi
  | scaled => exact fun i hi => by rw [hl i hi, hw i hi]; exact h i hi
end
theorem zipD_map {α β : Type} (f : α → D) (g : β → D) : ∀ (xs : List α) (ys : List β), zipD (xs.map f) (ys.map g) = (List.zip xs ys).map fun p => .tuple [f p.1, g p.2]
  | [], _ => rfl
  | _ :: _, [] => rfl
  | x :: xs, y :: ys => by simp [zipD, zipD_map f g xs ys]
theorem run_law {q : Option T} {p : Option D} (r : FR RTp q p) (h : p = some (.bool true)) : q = some (.p (.bool true)) := by
  obtain ⟨t, h1, h2⟩ := r _ h
  rw [h1, h2]
end C
namespace C
open PySem PySem.Spec PyProof.Rows L2 M N B

abbrev AF := Nat → Nat → Rat
/-- what a walk comes to; its end stands first -/
def wr (A : AF) : List Nat → Rat
  | v :: u :: r => A u v + wr A (u :: r)
  | _ => 0
def RWk (n : Nat) : List Nat → Prop
  | [] => False
  | [v] => v < n
  | v :: u :: r => v < n ∧ u ≠ v ∧ RWk n (u :: r)
section
variable {A : AF} {n : Nat}
theorem wr_app : ∀ (x : List Nat) (v : Nat) (y : List Nat), wr A (x ++ v :: y) = wr A (x ++ [v]) + wr A (v :: y)
  | [], v, y => by simp [wr]; grind
  | [w], v, y => by simp [wr]; grind
  | w :: u :: x, v, y => by
    have ih := wr_app (u :: x) v y
    simp only [List.cons_append, wr] at ih ⊢
    grind
theorem rwk_app : ∀ (x : List Nat) (v : Nat) (y : List Nat), RWk n (x ++ v :: y) ↔ RWk n (x ++ [v]) ∧ RWk n (v :: y)
  | [], v, y => by
    constructor
    · intro h
      refine ⟨?_, h⟩
      cases y with
      | nil => exact h
      | cons u r => exact h.1
    · exact fun h => h.2
  | [w], v, y => by
    constructor
    · intro h
      refine ⟨⟨h.1, h.2.1, ?_⟩, h.2.2⟩
      cases y with
      | nil => exact h.2.2
      | cons u r => exact h.2.2.1
    · exact fun h => ⟨h.1.1, h.1.2.1, h.2⟩
  | w :: u :: x, v, y => by
    have ih := rwk_app (u :: x) v y
    simp only [List.cons_append, RWk] at ih ⊢
    rw [ih]
    constructor
    · exact fun h => ⟨⟨h.1, h.2.1, h.2.2.1⟩, h.2.2.2⟩
    · exact fun h => ⟨h.1.1, h.1.2.1, h.1.2.2, h.2⟩
theorem RWk.lt : ∀ {p : List Nat}, RWk n p → ∀ x ∈ p, x < n
  | [], h, _, _ => h.elim
  | [v], h, x, hx => by simp at hx; subst hx; exact h
  | v :: u :: r, h, x, hx => by
    rcases List.mem_cons.mp hx with rfl | hx
    · exact h.1
    · exact RWk.lt h.2.2 x hx
theorem RWk.ne : ∀ {p : List Nat}, RWk n p → p ≠ []
  | [], h => h.elim
  | _ :: _, _ => by simp
theorem dup_split : ∀ {p : List Nat}, ¬ p.Nodup → ∃ x v y z, p = x ++ v :: (y ++ v :: z)
  | [], h => absurd List.nodup_nil h
  | w :: p, h => by
    by_cases hw : w ∈ p
    · obtain ⟨y, z, rfl⟩ := List.append_of_mem hw
      exact ⟨[], w, y, z, rfl⟩
    · have : ¬ p.Nodup := fun hp => h (List.nodup_cons.mpr ⟨hw, hp⟩)
      obtain ⟨x, v, y, z, rfl⟩ := dup_split this
      exact ⟨w :: x, v, y, z, rfl⟩
theorem long_dup {p : List Nat} (h : RWk n p) (hl : n < p.length) : ∃ x v y z, p = x ++ v :: (y ++ v :: z) := by
  refine dup_split fun hn => ?_
  have := nodup_le hn (m := List.range n) fun x hx => List.mem_range.mpr (h.lt x hx)
  simp at this; omega
/-- a round cut out -/
theorem cut_wr (x : List Nat) (v : Nat) (y z : List Nat) : wr A (x ++ v :: (y ++ v :: z)) = wr A (x ++ v :: z) + wr A (v :: (y ++ [v])) := by
  rw [wr_app x v (y ++ v :: z), wr_app x v z, show v :: (y ++ v :: z) = (v :: y) ++ v :: z from rfl, wr_app (v :: y) v z]
  simp only [List.cons_append]
  grind
theorem cut_rwk {x : List Nat} {v : Nat} {y z : List Nat} (h : RWk n (x ++ v :: (y ++ v :: z))) : RWk n (x ++ v :: z) ∧ RWk n (v :: (y ++ [v])) := by
  rw [rwk_app] at h
  have h2 : RWk n ((v :: y) ++ v :: z) := h.2
  rw [rwk_app] at h2
  exact ⟨(rwk_app x v z).mpr ⟨h.1, h2.2⟩, h2.1⟩
theorem cut_head (x : List Nat) (v : Nat) (y z : List Nat) : (x ++ v :: (y ++ v :: z)).head? = (x ++ v :: z).head? := by cases x <;> rfl
theorem cut_last (x : List Nat) (v : Nat) (y z : List Nat) : (x ++ v :: (y ++ v :: z)).getLast? = (x ++ v :: z).getLast? := by
  rw [List.getLast?_append, List.getLast?_append, show v :: (y ++ v :: z) = (v :: y) ++ v :: z from rfl, List.getLast?_append]
  cases h : (v :: z).getLast? with
  | none => simp at h
  | some w => simp
/-- no closed walk comes to less than 0: a short walk comes to no more -/
theorem reduce (hneg : ∀ v y, RWk n (v :: (y ++ [v])) → 0 ≤ wr A (v :: (y ++ [v]))) : ∀ (m : Nat) {p : List Nat}, p.length ≤ m → RWk n p → ∃ q, RWk n q ∧ q.head? = p.head? ∧ q.getLast? = p.getLast? ∧ q.length ≤ n ∧ wr A q ≤ wr A p
  | 0, p, hm, h => by have := h.ne; cases p with | nil => exact absurd rfl this | cons _ _ => simp at hm
  | m + 1, p, hm, h => by
    by_cases hl : p.length ≤ n
    · exact ⟨p, h, rfl, rfl, hl, by grind⟩
    · obtain ⟨x, v, y, z, rfl⟩ := long_dup h (by omega)
      obtain ⟨h1, h2⟩ := cut_rwk h
      obtain ⟨q, a1, a2, a3, a4, a5⟩ := reduce hneg m (p := x ++ v :: z) (by simp at hm ⊢; omega) h1
      refine ⟨q, a1, by rw [a2, cut_head], by rw [a3, cut_last], a4, ?_⟩
      rw [cut_wr]
      have := hneg v y h2
      grind
theorem wr_lo {Mx : Rat} (hA : ∀ u v, u < n → v < n → -Mx ≤ A u v) (hM : 0 ≤ Mx) : ∀ {p : List Nat}, RWk n p → -(p.length * Mx) ≤ wr A p
  | [], h => h.elim
  | [v], h => by simp [wr]; grind
  | v :: u :: r, h => by
    have ih := wr_lo hA hM h.2.2
    have h1 := hA u v (h.2.2.lt u List.mem_cons_self) h.1
    simp only [wr, List.length_cons] at ih ⊢
    push_cast at ih ⊢
    grind
theorem wr_shift (a : AF) (μ : Rat) : ∀ p : List Nat, wr (fun u v => a u v - μ) p = wr a p - ((p.length - 1 : Nat) : Rat) * μ
  | [] => by simp [wr]; grind
  | [v] => by simp [wr]; grind
  | v :: u :: r => by
    have ih := wr_shift a μ (u :: r)
    simp only [wr, List.length_cons, Nat.add_sub_cancel] at ih ⊢
    rw [ih]
    push_cast
    grind
end
theorem arch (x g : Rat) (hg : 0 < g) : ∃ m : Nat, x < (m : Rat) * g := by
  refine ⟨(x / g).num.natAbs + 1, ?_⟩
  have h1 : x / g ≤ ((x / g).num.natAbs : Rat) := by
    rw [Rat.le_iff]
    have hd := (x / g).den_pos
    have e1 : (((x / g).num.natAbs : Nat) : Rat).num = ((x / g).num.natAbs : Int) := by simp
    have e2 : (((x / g).num.natAbs : Nat) : Rat).den = 1 := by simp
    rw [e1, e2]
    generalize (x / g).num = a at *
    generalize (x / g).den = b at *
    have h2 : (a.natAbs : Int) * 1 ≤ (a.natAbs : Int) * (b : Int) := Int.mul_le_mul_of_nonneg_left (by omega) (by omega)
    have h3 : a ≤ (a.natAbs : Int) := by omega
    omega
  have h2 : x / g * g = x := by grind
  have h3 := Rat.mul_le_mul_of_nonneg_right h1 (by grind : 0 ≤ g)
  push_cast
  grind
end C
namespace C
open PySem PySem.Spec PyProof.Rows L2 M N B

abbrev IF := Nat → Nat → Int
def dk (n : Nat) (a : IF) : Nat → Nat → Option Int
  | 0, v => if v = 0 then some 0 else none
  | k + 1, v => minI ((List.range n).filterMap fun u => if u ≠ v then (dk n a k u).map fun x => x + a u v else none)
def rt (a : IF) : AF := fun u v => (a u v : Rat)
theorem minI_some {ns : List Int} {x : Int} (h : x ∈ ns) : ∃ m, minI ns = some m ∧ m ≤ x := by
  cases ns with
  | nil => simp at h
  | cons y r => exact ⟨_, rfl, (minI_spec (ns := y :: r) rfl).2 x h⟩
section
variable {n : Nat} {a : IF}
theorem dk_le (n1 : 1 ≤ n) : ∀ (k v : Nat) (p : List Nat), RWk n p → p.head? = some v → p.getLast? = some 0 → p.length = k + 1 → ∃ x, dk n a k v = some x ∧ (x : Rat) ≤ wr (rt a) p
  | 0, v, p, h, h1, h2, hl => by
    match p, hl with
    | [w], _ =>
      simp at h1 h2
      subst h1 h2
      exact ⟨0, by simp [dk], by simp [wr]⟩
  | k + 1, v, p, h, h1, h2, hl => by
    match p, hl with
    | w :: u :: r, hl =>
      simp at h1
      subst h1
      obtain ⟨x, e1, e2⟩ := dk_le n1 k u (u :: r) h.2.2 rfl (by simpa [List.getLast?_cons_cons] using h2) (by simpa using hl)
      have hm : x + a u w ∈ (List.range n).filterMap fun u => if u ≠ w then (dk n a k u).map fun x => x + a u w else none := by
        rw [List.mem_filterMap]
        exact ⟨u, List.mem_range.mpr (h.2.2.lt u List.mem_cons_self), by rw [if_pos h.2.1, e1]; rfl⟩
      obtain ⟨m, e3, e4⟩ := minI_some hm
      refine ⟨m, e3, ?_⟩
      have : (m : Rat) ≤ ((x + a u w : Int) : Rat) := by exact_mod_cast e4
      simp only [wr, rt]
      push_cast at this
      grind
theorem dk_ex (n1 : 1 ≤ n) : ∀ (k v : Nat) (x : Int), v < n → dk n a k v = some x → ∃ p, RWk n p ∧ p.head? = some v ∧ p.getLast? = some 0 ∧ p.length = k + 1 ∧ wr (rt a) p = x
  | 0, v, x, hv, e => by
    simp only [dk] at e
    split at e
    · rename_i hv0
      cases e
      subst hv0
      exact ⟨[0], hv, rfl, rfl, rfl, by simp [wr]⟩
    · cases e
  | k + 1, v, x, hv, e => by
    simp only [dk] at e
    obtain ⟨h1, _⟩ := minI_spec e
    rw [List.mem_filterMap] at h1
    obtain ⟨u, hu, h2⟩ := h1
    split at h2
    · rename_i huv
      rw [Option.map_eq_some_iff] at h2
      obtain ⟨y, e1, rfl⟩ := h2
      obtain ⟨p, b1, b2, b3, b4, b5⟩ := dk_ex n1 k u y (List.mem_range.mp hu) e1
      match p, b2 with
      | w :: r, b2 =>
        simp at b2
        subst b2
        refine ⟨v :: w :: r, ⟨hv, huv, b1⟩, rfl, by simpa [List.getLast?_cons_cons] using b3, by simpa using b4, ?_⟩
        simp only [wr, rt] at b5 ⊢
        rw [b5]; push_cast; grind
    · cases h2
/-- from a closed walk that comes to less than 0, walks that come to as little as you like -/
theorem pump {A : AF} {v : Nat} {y : List Nat} (hv : v < n) (hc : RWk n (v :: (y ++ [v]))) (n0 : 0 < n) : ∀ m : Nat, ∃ t, RWk n (v :: t) ∧ (v :: t).getLast? = some 0 ∧ wr A (v :: t) = (m : Rat) * wr A (v :: (y ++ [v])) + wr A (if v = 0 then [0] else [v, 0])
  | 0 => by
    by_cases h : v = 0
    · subst h; exact ⟨[], n0, rfl, by simp; grind⟩
    · exact ⟨[0], ⟨hv, fun e => h e.symm, n0⟩, rfl, by simp [h]; grind⟩
  | m + 1 => by
    obtain ⟨t, h1, h2, h3⟩ := pump (A := A) hv hc n0 m
    refine ⟨y ++ v :: t, ?_, ?_, ?_⟩
    · exact (rwk_app (v :: y) v t).mpr ⟨hc, h1⟩
    · have : (v :: (y ++ v :: t)).getLast? = (v :: t).getLast? := by
        have := cut_last [] v y t
        simpa using this
      rw [this, h2]
    · have := wr_app (A := A) (v :: y) v t
      simp only [List.cons_append] at this
      rw [this, h3]; push_cast; grind
structure IsMean (n : Nat) (a : IF) (μ : Rat) : Prop where
  ex : ∃ v y, v < n ∧ dk n a n v = some y ∧ ∀ k x, k < n → dk n a k v = some x → ((y - x : Int) : Rat) ≤ μ * ((n - k : Nat) : Rat)
  all : ∀ v y, v < n → dk n a n v = some y → ∃ k x, k < n ∧ dk n a k v = some x ∧ μ * ((n - k : Nat) : Rat) ≤ ((y - x : Int) : Rat)
def shf (a : IF) (μ : Rat) : AF := fun u v => (a u v : Rat) - μ
theorem wr_shf (μ : Rat) (p : List Nat) : wr (shf a μ) p = wr (rt a) p - ((p.length - 1 : Nat) : Rat) * μ := wr_shift (rt a) μ p
theorem mean_short {μ : Rat} (h : IsMean n a μ) (n1 : 1 ≤ n) : ∀ (m : Nat) {p : List Nat}, p.length ≤ m → RWk n p → p.getLast? = some 0 → ∃ q, RWk n q ∧ q.length ≤ n ∧ wr (shf a μ) q ≤ wr (shf a μ) p
  | 0, p, hm, hp, _ => by have := hp.ne; cases p with | nil => exact absurd rfl this | cons _ _ => simp at hm
  | m + 1, p, hm, hp, h0 => by
    by_cases hl : p.length ≤ n
    · exact ⟨p, hp, hl, by grind⟩
    · obtain ⟨x, v, r, e, er⟩ : ∃ x v r, p = x ++ v :: r ∧ r.length = n := by
        have hd : (p.drop (p.length - (n + 1))).length = n + 1 := by simp; omega
        cases hc : p.drop (p.length - (n + 1)) with
        | nil => rw [hc] at hd; simp at hd
        | cons v r =>
          rw [hc] at hd
          exact ⟨p.take (p.length - (n + 1)), v, r, by rw [← hc, List.take_append_drop], by simpa using hd⟩
      subst e
      obtain ⟨h1, h2⟩ := (rwk_app x v r).mp hp
      have h3 : (v :: r).getLast? = some 0 := by
        rw [List.getLast?_append] at h0
        cases hq : (v :: r).getLast? with
        | none => simp at hq
        | some w => rw [hq] at h0; simpa using h0
      obtain ⟨y, e1, e2⟩ := dk_le (a := a) n1 n v (v :: r) h2 rfl h3 (by simp [er])
      have hv := h2.lt v List.mem_cons_self
      obtain ⟨k, z, hk, e3, e4⟩ := h.all v y hv e1
      obtain ⟨s, c1, c2, c3, c4, c5⟩ := dk_ex (a := a) n1 k v z hv e3
      match s, c2 with
      | w :: s, c2 =>
        simp at c2; subst c2
        have c4' : s.length = k := by simpa using c4
        obtain ⟨q, a1, a2, a3⟩ := mean_short h n1 m (p := x ++ w :: s) (by simp at hm ⊢; omega) ((rwk_app x w s).mpr ⟨h1, c1⟩) (by
          rw [List.getLast?_append, c3]; rfl)
        refine ⟨q, a1, a2, Rat.le_trans a3 ?_⟩
        rw [wr_app x w s, wr_app x w r, wr_shf μ (w :: s), wr_shf μ (w :: r), c5]
        simp only [List.length_cons, Nat.add_sub_cancel, er, c4']
        have e5 : ((n - k : Nat) : Rat) = (n : Rat) - (k : Rat) := by
          have : ((n - k : Nat) : Rat) + (k : Rat) = (n : Rat) := by exact_mod_cast (by omega : n - k + k = n)
          grind
        rw [e5] at e4
        push_cast at e4
        grind
theorem IsMean.no_less {μ : Rat} (h : IsMean n a μ) (n1 : 1 ≤ n) {Mx : Rat} (hA : ∀ u v, u < n → v < n → -Mx ≤ shf a μ u v) (hM : 0 ≤ Mx) (v : Nat) (y : List Nat) (hc : RWk n (v :: (y ++ [v]))) : 0 ≤ wr (shf a μ) (v :: (y ++ [v])) := by
  have hv := hc.lt v List.mem_cons_self
  apply Classical.byContradiction
  intro hneg
  have hg : 0 < -(wr (shf a μ) (v :: (y ++ [v]))) := by grind
  obtain ⟨m, hm⟩ := arch (wr (shf a μ) (if v = 0 then [0] else [v, 0]) + n * Mx) _ hg
  obtain ⟨t, t1, t2, t3⟩ := pump (A := shf a μ) hv hc (by omega) m
  obtain ⟨q, q1, q2, q3⟩ := mean_short h n1 _ (Nat.le_refl _) t1 t2
  have q4 := wr_lo hA hM q1
  have q5 : (q.length : Rat) ≤ (n : Rat) := by exact_mod_cast q2
  have q6 := Rat.mul_le_mul_of_nonneg_right q5 hM
  rw [t3] at q3
  grind
theorem IsMean.round {μ : Rat} (h : IsMean n a μ) (n1 : 1 ≤ n) : ∃ v y, RWk n (v :: (y ++ [v])) ∧ wr (shf a μ) (v :: (y ++ [v])) ≤ 0 := by
  obtain ⟨v, y, hv, e1, h1⟩ := h.ex
  obtain ⟨p, c1, c2, c3, c4, c5⟩ := dk_ex (a := a) n1 n v y hv e1
  obtain ⟨x, u, w, z, rfl⟩ := long_dup c1 (by omega)
  obtain ⟨d1, d2⟩ := cut_rwk c1
  refine ⟨u, w, d2, ?_⟩
  rw [cut_head] at c2
  rw [cut_last] at c3
  have hl : (x ++ u :: z).length = x.length + z.length + 1 := by simp; omega
  have hl2 : x.length + z.length + 1 + w.length + 1 = n + 1 := by simp at c4; omega
  obtain ⟨k, hk⟩ : ∃ k, k = x.length + z.length := ⟨_, rfl⟩
  obtain ⟨b, e2, e3⟩ := dk_le (a := a) n1 k v (x ++ u :: z) d1 c2 c3 (by omega)
  have h2 := h1 k b (by omega) e2
  rw [cut_wr] at c5
  rw [wr_shf]
  have e4 : (u :: (w ++ [u])).length - 1 = n - k := by simp; omega
  rw [e4]
  push_cast at h2
  grind
end
/-- what a round wastes for each step is told by worths and a closed walk -/
theorem pot_le {A : AF} {n : Nat} {w : WF} (hw : ∀ u v, u < n → v < n → u ≠ v → w v ≤ w u + A u v) : ∀ {p : List Nat} {h l : Nat}, RWk n p → p.head? = some h → p.getLast? = some l → w h ≤ w l + wr A p
  | [], _, _, r, _, _ => r.elim
  | [x], h, l, r, h1, h2 => by simp at h1 h2; subst h1 h2; simp [wr]; grind
  | x :: u :: p, h, l, r, h1, h2 => by
    simp at h1; subst h1
    have ih := pot_le hw (h := u) (l := l) r.2.2 rfl (by simpa [List.getLast?_cons_cons] using h2)
    have := hw u x (r.2.2.lt u List.mem_cons_self) r.1 r.2.1
    simp only [wr] at ih ⊢
    grind
def Tg (n : Nat) (A : AF) (w : WF) (u v : Nat) : Prop := u < n ∧ v < n ∧ u ≠ v ∧ w v = w u + A u v
theorem tight_all {A : AF} {n : Nat} {w : WF} (hw : ∀ u v, u < n → v < n → u ≠ v → w v ≤ w u + A u v) : ∀ {p : List Nat} {h l : Nat}, RWk n p → p.head? = some h → p.getLast? = some l → w l + wr A p ≤ w h → Reach (Tg n A w) l h
  | [], _, _, r, _, _, _ => r.elim
  | [x], h, l, r, h1, h2, _ => by simp at h1 h2; subst h1 h2; exact .refl
  | x :: u :: p, h, l, r, h1, h2, ht => by
    simp at h1; subst h1
    have h3 : (u :: p).getLast? = some l := by simpa [List.getLast?_cons_cons] using h2
    have hlt := r.2.2.lt u List.mem_cons_self
    have p1 := pot_le hw (h := u) (l := l) r.2.2 rfl h3
    have p2 := hw u x hlt r.1 r.2.1
    simp only [wr] at ht p1
    exact .step (tight_all hw (h := u) (l := l) r.2.2 rfl h3 (by grind)) ⟨hlt, r.1, r.2.1, by grind⟩
end C
namespace C
open PySem PySem.Spec PyProof.Rows L2 M N B

def enO : Option Int → D
  | none => .none
  | some x => .int x
def rowO (n : Nat) (f : Nat → Option Int) : List D := (List.range n).map fun v => enO (f v)
def df (c : CF) : IF := fun u v => c u v - c u u
def tabO (n m : Nat) (c : CF) : List D := (List.range m).map fun k => .list (rowO n (dk n (df c) k))
theorem notn_O (o : Option Int) : op2 notnT (enO o) .none = some (.bool o.isSome) := by cases o <;> rfl
theorem fold_fm {α : Type} {step : List D → D → Option (List D)} (en : α → D) (f : α → Option D) : ∀ (xs : List α) (acc : List D), (∀ x ∈ xs, ∀ acc : List D, acc.length ≤ 1000 → step acc (en x) = some (acc ++ (f x).toList)) → acc.length + xs.length ≤ 1000 → fold step (xs.map en) acc = some (acc ++ xs.filterMap f)
  | [], acc, _, _ => by simp [fold]
  | x :: r, acc, h, hl => by
    simp only [List.map_cons, fold]
    simp only [List.length_cons] at hl
    rw [h x List.mem_cons_self acc (by omega), Option.bind_some, fold_fm en f r _ (fun y hy acc' h2 => h y (List.mem_cons_of_mem _ hy) acc' h2) (by cases f x <;> simp <;> omega)]
    cases hf : f x <;> simp [hf]
theorem fold_appR {step : List D → D → Option (List D)} (n : Nat) (f : Nat → D) (hn : n ≤ 1000) (h : ∀ i, i < n → ∀ acc : List D, acc.length ≤ 1000 → step acc (.int (i : Int)) = some (acc ++ [f i])) : fold step (rangeD 0 (n : Int)) [] = some ((List.range n).map f) := by
  rw [rangeD_map, fold_app (fun (i : Nat) => PyData.int (i : Int)) f (List.range n) [] (fun x hx acc _ ha => h x (List.mem_range.mp hx) acc ha) (by simpa using hn)]
  rfl
theorem fold_fmR {step : List D → D → Option (List D)} (n : Nat) (f : Nat → Option D) (hn : n ≤ 1000) (h : ∀ i, i < n → ∀ acc : List D, acc.length ≤ 1000 → step acc (.int (i : Int)) = some (acc ++ (f i).toList)) : fold step (rangeD 0 (n : Int)) [] = some ((List.range n).filterMap f) := by
  rw [rangeD_map, fold_fm (fun (i : Nat) => PyData.int (i : Int)) f (List.range n) [] (fun x hx acc ha => h x (List.mem_range.mp hx) acc ha) (by simpa using hn)]
  rfl
theorem ix_rowO {n : Nat} {f : Nat → Option Int} {v : Nat} (h : v < n) : op2 idxT (.list (rowO n f)) (.int (v : Int)) = some (enO (f v)) := by
  unfold rowO; rw [c_ixl, at_range h]
theorem ix_tabO {n m : Nat} {c : CF} {k : Nat} (h : k < m) : op2 idxT (.list (tabO n m c)) (.int (k : Int)) = some (.list (rowO n (dk n (df c) k))) := by
  unfold tabO; rw [c_ixl, at_range h]
theorem ix_tab_last {n m : Nat} {c : CF} : op2 idxT (.list (tabO n (m + 1) c)) (.int (-1)) = some (.list (rowO n (dk n (df c) m))) := by
  unfold tabO; rw [c_ixl, List.range_succ, List.map_append, List.map_singleton, atI_last]
theorem minT_of (xs : List Int) : xif (xbool (op2 M.neT (.list (enI xs)) (.list []))) (xf1 minT (some (.list (enI xs)))) (some .none) = some (enO (minI xs)) := by
  have h : op2 M.neT (.list (enI xs)) (.list []) = some (.bool (!decide (xs = []))) := by
    refine c_ne (n := 1) ?_ (by simp [Pln]) ?_
    · exact pln_ints xs
    · constructor
      · intro h; cases xs with
        | nil => rfl
        | cons x r => simp [enI] at h
      · rintro rfl; rfl
  rw [h]
  cases xs with
  | nil => rfl
  | cons x r =>
    simp only [reduceCtorEq, decide_false, Bool.not_false, c_xbool, c_xif_t, c_xf1]
    simp only [minT, ev_anyl, Option.bind_some]
    rw [show intsOf (enI (x :: r)) = some (x :: r) from intsOf_map _]
    rfl
theorem walks {n : Nat} {c : CF} (h : Cst n c) : P.walks (enCm n c) = some (.list (tabO n (n + 1) c)) := by
  have n1 := h.n1
  have n13 := h.n13
  have sm : smallI (n : Int) := small_of (by omega) (by omega)
  have e0 : op2 mulT (.list [.none]) (.int ((n : Int) - 1)) = some (.list (List.replicate (n - 1) .none)) := by
    have hr : rep62 [PyData.none].length ((n : Int) - 1) := by
      refine ⟨by omega, by omega, ?_⟩
      simp [LIM]; omega
    simp only [op2, ev_mull, hr, if_true, Option.bind_some, T.pure?]
    have : ((n : Int) - 1).toNat = n - 1 := by omega
    rw [this]
    congr 2
    clear this hr
    induction n - 1 with
    | zero => rfl
    | succ m ih => rw [List.replicate_succ, List.replicate_succ, List.flatten_cons, ih]; rfl
  have e1 : [PyData.list (.int 0 :: List.replicate (n - 1) .none)] = tabO n 1 c := by
    simp only [tabO, List.range_one, List.map_singleton, rowO]
    congr 2
    obtain ⟨m, rfl⟩ : ∃ m, n = m + 1 := ⟨n - 1, by omega⟩
    rw [List.range_succ_eq_map, List.map_cons, List.map_map]
    simp only [dk, Nat.add_sub_cancel, if_true, enO]
    congr 1
    refine List.ext_getElem (by simp) fun i h1 h2 => by simp [enO]
  obtain ⟨s, h1, h2⟩ := fold_range (step := fun s d => P.walks_L3 (.int (n : Int)) (enCm n c) s d) (fun i s => s = tabO n (i + 1) c) n (tabO n 1 c) rfl (fun i s hi hs => by
    subst hs
    refine ⟨_, ?_, rfl⟩
    unfold P.walks_L3
    have inner : fold (fun s d => P.walks_L2 (.int (n : Int)) (tabO n (i + 1) c) (enCm n c) s d) (rangeD 0 (n : Int)) [] = some (rowO n (dk n (df c) (i + 1))) := by
      refine fold_appR n _ (by omega) fun v hv acc ha => ?_
      unfold P.walks_L2
      have inn : fold (fun s d => P.walks_L1 (.int (v : Int)) (tabO n (i + 1) c) (enCm n c) s d) (rangeD 0 (n : Int)) [] = some (enI ((List.range n).filterMap fun u => if u ≠ v then (dk n (df c) i u).map fun x => x + df c u v else none)) := by
        rw [fold_fmR n (fun u => (if u ≠ v then (dk n (df c) i u).map fun x => x + df c u v else none).map PyData.int) (by omega) fun u hu acc ha => ?_]
        · unfold enI; rw [List.map_filterMap]
        · unfold P.walks_L1
          simp only [c_xop, c_nei, c_xbool, c_xneg, ix_tab_last, ix_rowO hu, notn_O, c_xand, Int.natCast_inj]
          by_cases huv : u = v
          · subst huv
            simp
          · simp only [huv, decide_false, Bool.not_false, c_xif_t]
            cases hd : dk n (df c) i u with
            | none => simp
            | some x =>
              simp only [Option.isSome_some, c_xbool, c_xif_t, enO, c_xop, ix_Cm hu, ix_rowC hv, ix_rowC hu, c_add, c_sub, Option.bind_some, apd_of ha, huv, ne_eq, not_false_eq_true, if_true, Option.map_some, Option.toList_some, df]
              rw [show x + c u v - c u u = x + (c u v - c u u) by omega]
      simp only [c_xseq0, Option.bind_some, c_irng1, sm, if_true, inn, c_xop, c_xlst, Option.map_some, minT_of, apd_of ha]
      rfl
    simp only [c_xseq0, Option.bind_some, c_irng1, sm, if_true, inner]
    rw [apd_of (by simp [tabO]; omega)]
    simp only [Option.bind_some]
    unfold tabO
    rw [List.range_succ (n := i + 1), List.map_append]
    rfl)
  unfold P.walks
  simp only [c_xf1, len_Cm, Option.bind_some, ev_pure, c_xop, c_xlst, c_xseq1, c_xseq0, Option.map_some, c_sub, e0, c_addl, List.length_cons, List.length_nil, List.length_replicate]
  rw [if_pos (by unfold LIM; omega)]
  simp only [List.cons_append, List.nil_append, c_xseq1, c_xseq0, Option.map_some, Option.bind_some, c_irng1, sm, if_true, e1, h1, h2]
end C
namespace C
open PySem PySem.Spec PyProof.Rows L2 M N B

theorem dk_bound {n : Nat} {c : CF} (h : Cst n c) : ∀ (k v : Nat) (x : Int), v < n → dk n (df c) k v = some x → x.natAbs ≤ k * 6000000000000
  | 0, v, x, hv, e => by
    simp only [dk] at e
    split at e
    · cases e; simp
    · cases e
  | k + 1, v, x, hv, e => by
    simp only [dk] at e
    obtain ⟨h1, _⟩ := minI_spec e
    rw [List.mem_filterMap] at h1
    obtain ⟨u, hu, h2⟩ := h1
    have hu := List.mem_range.mp hu
    split at h2
    · rw [Option.map_eq_some_iff] at h2
      obtain ⟨y, e1, rfl⟩ := h2
      have ih := dk_bound h k u y hu e1
      have a1 := h.lo u v hu hv
      have a2 := h.hi u v hu hv
      have a3 := h.lo u u hu hu
      have a4 := h.hi u u hu hu
      simp only [df]
      rw [Nat.add_mul]
      omega
    · cases h2
theorem isn_Q (q : Rat) : op2 isnT (enQ q) .none = some (.bool false) := rfl
theorem isn_N : op2 isnT .none .none = some (.bool true) := rfl
/-- the greatest of (y - d k v) / (n - k), k below i -/
structure MxI (n : Nat) (c : CF) (v : Nat) (y : Int) (i : Nat) (q : Rat) : Prop where
  sz : SzQ 100 q
  ex : ∃ k x, k < i ∧ dk n (df c) k v = some x ∧ q = Rat.divInt (y - x) ((n : Int) - k)
  all : ∀ k x, k < i → dk n (df c) k v = some x → Rat.divInt (y - x) ((n : Int) - k) ≤ q
theorem worst {n : Nat} {c : CF} (h : Cst n c) {v : Nat} (hv : v < n) {y : Int} (hy : dk n (df c) n v = some y) :
    ∃ s, fold (fun s d => P.least_mean_L1 (.list (tabO n (n + 1) c)) (.int (v : Int)) (.int (n : Int)) s d) (rangeD 0 (n : Int)) .none = some s ∧ ((s = .none ∧ ∀ k, k < n → dk n (df c) k v = none) ∨ ∃ q, s = enQ q ∧ MxI n c v y n q) := by
  have n13 := h.n13
  have by' := dk_bound h n v y hv hy
  refine fold_range (step := fun s d => P.least_mean_L1 (.list (tabO n (n + 1) c)) (.int (v : Int)) (.int (n : Int)) s d) (fun i s => (s = .none ∧ ∀ k, k < i → dk n (df c) k v = none) ∨ ∃ q, s = enQ q ∧ MxI n c v y i q) n _ (.inl ⟨rfl, by simp⟩) fun i s hi hs => ?_
  unfold P.least_mean_L1
  simp only [c_xop, ix_tabO (by omega : i < n + 1), ix_tabO (by omega : n < n + 1), ix_rowO hv, notn_O, c_xbool, hy, enO, c_sub]
  cases hd : dk n (df c) i v with
  | none =>
    refine ⟨s, by simp, ?_⟩
    rcases hs with ⟨h1, h2⟩ | ⟨q, h1, h2⟩
    · exact .inl ⟨h1, fun k hk => by
        rcases Nat.lt_succ_iff_lt_or_eq.mp hk with z | rfl
        · exact h2 k z
        · exact hd⟩
    · refine .inr ⟨q, h1, h2.sz, ?_, fun k x hk e => ?_⟩
      · obtain ⟨k, x, z, z2⟩ := h2.ex
        exact ⟨k, x, by omega, z2⟩
      · rcases Nat.lt_succ_iff_lt_or_eq.mp hk with z | rfl
        · exact h2.all k x z e
        · rw [hd] at e; cases e
  | some x =>
    have bx := dk_bound h i v x hv hd
    have hb0 : ((n : Int) - i) ≠ 0 := by omega
    have sb : Sz 10 ((n : Int) - i) := by unfold Sz; omega
    have st : Sz 60 (y - x) := by
      have e1 : n * 6000000000000 ≤ 13 * 6000000000000 := Nat.mul_le_mul_right _ n13
      have e2 : i * 6000000000000 ≤ 13 * 6000000000000 := Nat.mul_le_mul_right _ (by omega)
      unfold Sz; omega
    have fr := fr_div (a := y - x) hb0 (sb.mono (by decide))
    have sq : SzQ 100 (Rat.divInt (y - x) ((n : Int) - i)) := szq_divInt hb0 (st.mono (by decide)) (sb.mono (by decide))
    simp only [Option.isSome_some, c_xif_t, enO, c_sub, c_ap2, fr, Option.bind_some, c_notni, c_xbool]
    rcases hs with ⟨h1, h2⟩ | ⟨q, h1, h2⟩
    · subst h1
      refine ⟨enQ (Rat.divInt (y - x) ((n : Int) - i)), by simp only [isn_N, c_xbool, c_xor, c_xif_t, Option.bind_some], .inr ⟨_, rfl, sq, ⟨i, x, by omega, hd, rfl⟩, fun k x' hk e => ?_⟩⟩
      rcases Nat.lt_succ_iff_lt_or_eq.mp hk with z | rfl
      · rw [h2 k z] at e; cases e
      · rw [hd] at e; cases e; exact Rat.le_refl
    · subst h1
      have il := p_isless (h2.sz.mono (by decide : 100 ≤ 100000)) (sq.mono (by decide : 100 ≤ 100000))
      by_cases hlt : q < Rat.divInt (y - x) ((n : Int) - i)
      · refine ⟨enQ (Rat.divInt (y - x) ((n : Int) - i)), by simp only [isn_Q, c_xbool, c_xor, c_xif_f, il, hlt, decide_true, c_xif_t, Option.bind_some], .inr ⟨_, rfl, sq, ⟨i, x, by omega, hd, rfl⟩, fun k x' hk e => ?_⟩⟩
        rcases Nat.lt_succ_iff_lt_or_eq.mp hk with z | rfl
        · have := h2.all k x' z e; grind
        · rw [hd] at e; cases e; exact Rat.le_refl
      · refine ⟨enQ q, by simp only [isn_Q, c_xbool, c_xor, c_xif_f, il, hlt, decide_false, c_xif_f, Option.bind_some], .inr ⟨q, rfl, h2.sz, ?_, fun k x' hk e => ?_⟩⟩
        · obtain ⟨k, x, z, z2⟩ := h2.ex
          exact ⟨k, x, by omega, z2⟩
        · rcases Nat.lt_succ_iff_lt_or_eq.mp hk with z | rfl
          · exact h2.all k x' z e
          · rw [hd] at e; cases e; grind
/-- a walk of so many steps -/
theorem alt_walk {n : Nat} (n2 : 2 ≤ n) : ∀ k : Nat, ∃ p v, RWk n p ∧ p.head? = some v ∧ v < 2 ∧ p.getLast? = some 0 ∧ p.length = k + 1
  | 0 => ⟨[0], 0, (by omega : 0 < n), rfl, by omega, rfl, rfl⟩
  | k + 1 => by
    obtain ⟨p, v, h1, h2, h3, h4, h5⟩ := alt_walk n2 k
    match p, h2 with
    | w :: r, h2 =>
      simp at h2; subst h2
      exact ⟨(1 - w) :: w :: r, 1 - w, ⟨by omega, by omega, h1⟩, rfl, by omega, by simpa [List.getLast?_cons_cons] using h4, by simpa using h5⟩
theorem dk_shorter {n : Nat} {a : IF} (n1 : 1 ≤ n) {v : Nat} {y : Int} (hv : v < n) (e : dk n a n v = some y) : ∃ k x, k < n ∧ dk n a k v = some x := by
  obtain ⟨p, c1, c2, c3, c4, c5⟩ := dk_ex (a := a) n1 n v y hv e
  obtain ⟨x, u, w, z, rfl⟩ := long_dup c1 (by omega)
  obtain ⟨d1, d2⟩ := cut_rwk c1
  rw [cut_head] at c2
  rw [cut_last] at c3
  obtain ⟨b, e2, e3⟩ := dk_le (a := a) n1 (x.length + z.length) v (x ++ u :: z) d1 c2 c3 (by simp; omega)
  exact ⟨_, b, by simp at c4; omega, e2⟩
theorem divInt_mean {n k : Nat} (hk : k < n) (t : Int) (q : Rat) : (Rat.divInt t ((n : Int) - k) ≤ q ↔ (t : Rat) ≤ q * ((n - k : Nat) : Rat)) ∧ (q ≤ Rat.divInt t ((n : Int) - k) ↔ q * ((n - k : Nat) : Rat) ≤ (t : Rat)) := by
  have e : ((n : Int) - k) = ((n - k : Nat) : Int) := by omega
  have hp : (0 : Rat) < ((n - k : Nat) : Rat) := by exact_mod_cast (by omega : 0 < n - k)
  rw [e, Rat.divInt_eq_div]
  have e2 : (((n - k : Nat) : Int) : Rat) = ((n - k : Nat) : Rat) := rfl
  rw [e2]
  generalize ((n - k : Nat) : Rat) = m at *
  have h1 : (t : Rat) / m * m = t := by grind
  constructor
  · constructor
    · intro h; have := Rat.mul_le_mul_of_nonneg_right h (by grind : 0 ≤ m); grind
    · intro h
      apply Classical.byContradiction; intro hc
      have : q < (t : Rat) / m := by grind
      have := Rat.mul_lt_mul_of_pos_right this hp
      grind
  · constructor
    · intro h; have := Rat.mul_le_mul_of_nonneg_right h (by grind : 0 ≤ m); grind
    · intro h
      apply Classical.byContradiction; intro hc
      have : (t : Rat) / m < q := by grind
      have := Rat.mul_lt_mul_of_pos_right this hp
      grind
theorem least_mean {n : Nat} {c : CF} (h : Cst n c) (n2 : 2 ≤ n) : ∃ μ, P.least_mean (enCm n c) = some (enQ μ) ∧ SzQ 100 μ ∧ IsMean n (df c) μ := by
  have n13 := h.n13
  have sm : smallI (n : Int) := small_of (by omega) (by omega)
  have key := fold_range (step := fun s d => P.least_mean_L2 (.list (tabO n (n + 1) c)) (.int (n : Int)) s d) (fun i s => (s = .none ∧ ∀ v, v < i → dk n (df c) n v = none) ∨ ∃ q, s = enQ q ∧ (∃ v y, v < i ∧ dk n (df c) n v = some y ∧ MxI n c v y n q) ∧ ∀ v y, v < i → dk n (df c) n v = some y → ∃ q', MxI n c v y n q' ∧ q ≤ q') n .none (.inl ⟨rfl, by simp⟩) (fun i s hi hs => by
    unfold P.least_mean_L2
    simp only [c_xop, ix_tabO (by omega : n < n + 1), ix_rowO hi, notn_O, c_xbool]
    cases hd : dk n (df c) n i with
    | none =>
      refine ⟨s, by simp, ?_⟩
      rcases hs with ⟨h1, h2⟩ | ⟨q, h1, ⟨v, y, z1, z2, z3⟩, h3⟩
      · exact .inl ⟨h1, fun k hk => by
          rcases Nat.lt_succ_iff_lt_or_eq.mp hk with z | rfl
          · exact h2 k z
          · exact hd⟩
      · refine .inr ⟨q, h1, ⟨v, y, by omega, z2, z3⟩, fun v y hv e => ?_⟩
        rcases Nat.lt_succ_iff_lt_or_eq.mp hv with z | rfl
        · exact h3 v y z e
        · rw [hd] at e; cases e
    | some y =>
      obtain ⟨w, w1, w2⟩ := worst h hi hd
      obtain ⟨q, rfl, mq⟩ : ∃ q, w = enQ q ∧ MxI n c i y n q := by
        rcases w2 with ⟨_, z⟩ | z
        · obtain ⟨k, x, hk, e⟩ := dk_shorter (by omega) hi hd
          rw [z k hk] at e; cases e
        · exact z
      simp only [Option.isSome_some, c_xif_t, Option.bind_some, c_irng1, sm, if_true, w1]
      rcases hs with ⟨h1, h2⟩ | ⟨r, h1, ⟨v, y', z1, z2, z3⟩, h3⟩
      · subst h1
        refine ⟨enQ q, by simp only [isn_N, c_xbool, c_xor, c_xif_t, Option.bind_some], .inr ⟨q, rfl, ⟨i, y, by omega, hd, mq⟩, fun v y' hv e => ?_⟩⟩
        rcases Nat.lt_succ_iff_lt_or_eq.mp hv with z | rfl
        · rw [h2 v z] at e; cases e
        · rw [hd] at e; cases e; exact ⟨q, mq, Rat.le_refl⟩
      · subst h1
        have il := p_isless (mq.sz.mono (by decide : 100 ≤ 100000)) (z3.sz.mono (by decide : 100 ≤ 100000))
        by_cases hlt : q < r
        · refine ⟨enQ q, by simp only [isn_Q, c_xbool, c_xor, c_xif_f, il, hlt, decide_true, c_xif_t, c_ap2, Option.bind_some], .inr ⟨q, rfl, ⟨i, y, by omega, hd, mq⟩, fun v y' hv e => ?_⟩⟩
          rcases Nat.lt_succ_iff_lt_or_eq.mp hv with z | rfl
          · obtain ⟨q', a1, a2⟩ := h3 v y' z e
            exact ⟨q', a1, by grind⟩
          · rw [hd] at e; cases e; exact ⟨q, mq, Rat.le_refl⟩
        · refine ⟨enQ r, by simp only [isn_Q, c_xbool, c_xor, c_xif_f, il, hlt, decide_false, c_xif_f, c_ap2, Option.bind_some], .inr ⟨r, rfl, ⟨v, y', by omega, z2, z3⟩, fun v y' hv e => ?_⟩⟩
          rcases Nat.lt_succ_iff_lt_or_eq.mp hv with z | rfl
          · exact h3 v y' z e
          · rw [hd] at e; cases e; exact ⟨q, mq, by grind⟩)
  obtain ⟨s, k1, k2⟩ := key
  obtain ⟨μ, rfl, ⟨v, y, hv, e1, m1⟩, m2⟩ : ∃ q, s = enQ q ∧ (∃ v y, v < n ∧ dk n (df c) n v = some y ∧ MxI n c v y n q) ∧ ∀ v y, v < n → dk n (df c) n v = some y → ∃ q', MxI n c v y n q' ∧ q ≤ q' := by
    rcases k2 with ⟨_, z⟩ | z
    · obtain ⟨p, v, b1, b2, b3, b4, b5⟩ := alt_walk n2 n
      obtain ⟨x, e, _⟩ := dk_le (a := df c) (by omega) n v p b1 b2 b4 b5
      rw [z v (by omega)] at e; cases e
    · exact z
  refine ⟨μ, ?_, m1.sz, ⟨⟨v, y, hv, e1, fun k x hk e => (divInt_mean hk _ _).1.mp (m1.all k x hk e)⟩, fun v y hv e => ?_⟩⟩
  · unfold P.least_mean
    simp only [c_xf1, len_Cm, Option.bind_some, ev_pure, c_ap1, walks h, c_irng1, sm, if_true, k1]
  · obtain ⟨q', a1, a2⟩ := m2 v y hv e
    obtain ⟨k, x, hk, e2, e3⟩ := a1.ex
    exact ⟨k, x, hk, e2, (divInt_mean hk _ _).2.mp (by rw [← e3]; exact a2)⟩
end C
namespace C
open PySem PySem.Spec PyProof.Rows L2 M N B

theorem int_Q (a : Int) : PyData.tuple [.int a, .int 1] = enQ (a : Rat) := rfl
structure LI (n : Nat) (A : AF) (t : Nat) (w : WF) : Prop where
  le : ∀ p v, RWk n p → p.head? = some v → p.length ≤ t + 1 → w v ≤ wr A p
  ex : ∀ v, v < n → ∃ p, RWk n p ∧ p.head? = some v ∧ w v = wr A p
structure LJ (n : Nat) (A : AF) (t : Nat) (S : Nat → Nat → Prop) (w : WF) : Prop where
  li : LI n A t w
  pr : ∀ u v, S u v → u ≠ v → u < n → v < n → ∀ r, RWk n (u :: r) → (u :: r).length ≤ t + 1 → w v ≤ A u v + wr A (u :: r)
section
variable {n : Nat} {A : AF} {t : Nat} {w : WF} {S : Nat → Nat → Prop}
theorem LJ.step (h : LJ n A t S w) {u v : Nat} (hu : u < n) (hv : v < n) : LJ n A t (fun x y => S x y ∨ (x = u ∧ y = v)) (if u ≠ v ∧ w u + A u v < w v then updW w v (w u + A u v) else w) := by
  by_cases hc : u ≠ v ∧ w u + A u v < w v
  · rw [if_pos hc]
    have dec : ∀ x, updW w v (w u + A u v) x ≤ w x := fun x => by
      unfold updW; split
      · rename_i e; subst e; grind
      · exact Rat.le_refl
    refine ⟨⟨fun p x hp hx hl => Rat.le_trans (dec x) (h.li.le p x hp hx hl), fun x hx => ?_⟩, fun x y hs hxy hx hy r hr hl => ?_⟩
    · by_cases e : x = v
      · subst e
        obtain ⟨p, p1, p2, p3⟩ := h.li.ex u hu
        match p, p2 with
        | z :: r, p2 =>
          simp at p2; subst p2
          exact ⟨x :: z :: r, ⟨hv, hc.1, p1⟩, rfl, by rw [updW_same, p3]; simp only [wr]; grind⟩
      · rw [updW_ne e]; exact h.li.ex x hx
    · rcases hs with hs | ⟨rfl, rfl⟩
      · exact Rat.le_trans (dec y) (h.pr x y hs hxy hx hy r hr hl)
      · rw [updW_same]
        have := h.li.le (x :: r) x hr rfl hl
        grind
  · rw [if_neg hc]
    refine ⟨h.li, fun x y hs hxy hx hy r hr hl => ?_⟩
    rcases hs with hs | ⟨rfl, rfl⟩
    · exact h.pr x y hs hxy hx hy r hr hl
    · have := h.li.le (x :: r) x hr rfl hl
      have h2 : ¬ (w x + A x y < w y) := fun z => hc ⟨hxy, z⟩
      grind
theorem LJ.congr {S' : Nat → Nat → Prop} (h : LJ n A t S w) (hs : ∀ u v, u < n → v < n → S' u v → S u v) : LJ n A t S' w := ⟨h.li, fun u v s hne hu hv r hr hl => h.pr u v (hs u v hu hv s) hne hu hv r hr hl⟩
theorem LJ.turn (h : LJ n A t S w) (hs : ∀ u v, u < n → v < n → S u v) : LI n A (t + 1) w := ⟨fun p v hp hv hl => by
  match p, hp, hv with
  | [x], hp, hv => exact h.li.le [x] v hp hv (by simp)
  | x :: u :: r, hp, hv =>
    simp at hv; subst hv
    have hu := hp.2.2.lt u List.mem_cons_self
    simp only [wr]
    exact h.pr u x (hs u x hu hp.1) hp.2.1 hu hp.1 r hp.2.2 (by simpa using hl), h.li.ex⟩
theorem LI.fit (h : LI n A n w) (hneg : ∀ v y, RWk n (v :: (y ++ [v])) → 0 ≤ wr A (v :: (y ++ [v]))) (u v : Nat) (hu : u < n) (hv : v < n) (hne : u ≠ v) : w v ≤ w u + A u v := by
  obtain ⟨p, p1, p2, p3⟩ := h.ex u hu
  match p, p2 with
  | z :: r, p2 =>
    simp at p2; subst p2
    obtain ⟨q, q1, q2, q3, q4, q5⟩ := reduce hneg _ (Nat.le_refl _) (p := v :: z :: r) ⟨hv, hne, p1⟩
    have := h.le q v q1 (by rw [q2]; rfl) (by omega)
    simp only [wr] at q5
    grind
end
theorem wr_int (a : IF) : ∀ p : List Nat, ∃ z : Int, wr (rt a) p = z
  | [] => ⟨0, by simp [wr]⟩
  | [_] => ⟨0, by simp [wr]⟩
  | v :: u :: r => by
    obtain ⟨z, h⟩ := wr_int a (u :: r)
    exact ⟨a u v + z, by simp only [wr, rt] at h ⊢; rw [h]; push_cast; rfl⟩
theorem abs_le_of_sz {k : Nat} {q : Rat} (h : SzQ k q) : -((2 ^ k : Nat) : Rat) ≤ q ∧ q ≤ ((2 ^ k : Nat) : Rat) := by
  have hd : (1 : Int) ≤ (q.den : Int) := by have := q.den_pos; omega
  have h1 : q.num.natAbs < 2 ^ k := h.1
  obtain ⟨m, hm⟩ : ∃ m : Nat, 2 ^ k = m := ⟨_, rfl⟩
  rw [hm] at h1 ⊢
  have e1 : ((m : Nat) : Rat).num = (m : Int) := by simp
  have e2 : ((m : Nat) : Rat).den = 1 := by simp
  have e3 : (-((m : Nat) : Rat)).num = -(m : Int) := by rw [Rat.neg_num, e1]
  have e4 : (-((m : Nat) : Rat)).den = 1 := by rw [Rat.neg_den, e2]
  have h2 : (m : Int) * 1 ≤ (m : Int) * (q.den : Int) := Int.mul_le_mul_of_nonneg_left hd (by omega)
  constructor
  · rw [Rat.le_iff, e3, e4]
    have : -(m : Int) * (q.den : Int) = -((m : Int) * (q.den : Int)) := by grind
    rw [this]; omega
  · rw [Rat.le_iff, e1, e2]; omega
def MX : Nat := 2 ^ 101
theorem shf_lo {n : Nat} {c : CF} (h : Cst n c) {μ : Rat} (hm : SzQ 100 μ) (u v : Nat) (hu : u < n) (hv : v < n) : -(MX : Rat) ≤ shf (df c) μ u v := by
  have h1 := (abs_le_of_sz hm).2
  have a1 := h.lo u v hu hv
  have a4 := h.hi u u hu hu
  have h1' : μ ≤ (((2 ^ 100 : Nat) : Int) : Rat) := h1
  have h2 : ((-6000000000000 : Int) : Rat) ≤ ((df c u v : Int) : Rat) := Rat.intCast_le_intCast.mpr (by unfold df; omega)
  have h3 : (((2 ^ 100 : Nat) : Int) : Rat) + ((6000000000000 : Int) : Rat) ≤ ((MX : Int) : Rat) := by rw [← Rat.intCast_add]; exact Rat.intCast_le_intCast.mpr (by unfold MX; decide)
  have h4 : ((-6000000000000 : Int) : Rat) = -((6000000000000 : Int) : Rat) := by rw [← Rat.intCast_neg]
  show -((MX : Int) : Rat) ≤ _
  rw [h4] at h2
  generalize (((2 ^ 100 : Nat) : Int) : Rat) = a at *
  generalize ((6000000000000 : Int) : Rat) = b at *
  unfold shf
  grind
theorem lift_sz {n : Nat} {c : CF} (h : Cst n c) {μ : Rat} (hm : SzQ 100 μ) (hneg : ∀ v y, RWk n (v :: (y ++ [v])) → 0 ≤ wr (shf (df c) μ) (v :: (y ++ [v]))) {t : Nat} {w : WF} (hi : LI n (shf (df c) μ) t w) {v : Nat} (hv : v < n) : SzQ 300 (w v) := by
  have n13 := h.n13
  have up : w v ≤ 0 := by have := hi.le [v] v hv rfl (by simp); simpa [wr] using this
  obtain ⟨p, p1, p2, p3⟩ := hi.ex v hv
  obtain ⟨q, q1, q2, q3, q4, q5⟩ := reduce hneg _ (Nat.le_refl _) p1
  have lo1 := wr_lo (fun u v hu hv => shf_lo h hm u v hu hv) (by exact_mod_cast Nat.zero_le MX) q1
  have lo : -((13 * MX : Nat) : Rat) ≤ w v := by
    have e : (q.length : Rat) * (MX : Rat) ≤ ((13 * MX : Nat) : Rat) := by
      have : q.length * MX ≤ 13 * MX := Nat.mul_le_mul_right _ (by omega)
      exact_mod_cast this
    grind
  obtain ⟨z, hz⟩ := wr_int (df c) p
  rw [wr_shf, hz] at p3
  obtain ⟨m, hmm⟩ : ∃ m : Nat, p.length - 1 = m := ⟨_, rfl⟩
  rw [hmm] at p3
  have hd := den_rat μ
  have nd := num_den μ
  -- w v = (z * den - m * num) / den
  have e1 : w v = Rat.divInt (z * μ.den - m * μ.num) μ.den := by
    rw [Rat.divInt_eq_div, p3]
    push_cast
    grind
  have sd : Sz 100 (μ.den : Int) := hm.2
  have key : (z * μ.den - m * μ.num).natAbs ≤ 13 * MX * μ.den := by
    have e2 : w v * (μ.den : Rat) = ((z * μ.den - m * μ.num : Int) : Rat) := by
      rw [p3]; push_cast; grind
    have hp : (0 : Rat) ≤ (μ.den : Rat) := by exact_mod_cast Nat.zero_le _
    have l1 := Rat.mul_le_mul_of_nonneg_right lo hp
    have l2 := Rat.mul_le_mul_of_nonneg_right up hp
    rw [e2] at l1 l2
    have l1' : (-((13 * MX * μ.den : Nat) : Int) : Int) ≤ z * μ.den - m * μ.num := by
      have : ((-((13 * MX * μ.den : Nat) : Int) : Int) : Rat) ≤ ((z * μ.den - m * μ.num : Int) : Rat) := by
        push_cast at l1 ⊢; grind
      exact_mod_cast this
    have l2' : z * μ.den - m * μ.num ≤ 0 := by
      have : ((z * μ.den - m * μ.num : Int) : Rat) ≤ ((0 : Int) : Rat) := by push_cast at l2 ⊢; grind
      exact_mod_cast this
    omega
  rw [e1]
  refine szq_divInt (den_ne0 μ) ?_ (sd.mono (by decide))
  have hdn : μ.den < 2 ^ 100 := by have := hm.2; unfold Sz at this; simpa using this
  unfold Sz
  have : 13 * MX * μ.den ≤ 13 * MX * 2 ^ 100 := Nat.mul_le_mul_left _ (by omega)
  have : 13 * MX * 2 ^ 100 < 2 ^ 300 := by unfold MX; exact Nat.le_of_ble_eq_true rfl
  omega
theorem lifted {n : Nat} {c : CF} (h : Cst n c) {μ : Rat} (hm : SzQ 100 μ) (hneg : ∀ v y, RWk n (v :: (y ++ [v])) → 0 ≤ wr (shf (df c) μ) (v :: (y ++ [v]))) :
    ∃ w : WF, P.lifted (enCm n c) (enQ μ) = some (.list (wl n w)) ∧ LI n (shf (df c) μ) n w := by
  have n13 := h.n13
  have n1 := h.n1
  have sm : smallI (n : Int) := small_of (by omega) (by omega)
  have l0 : LI n (shf (df c) μ) 0 (fun _ => 0) := ⟨fun p v hp hv hl => by
    match p, hl with
    | [x], _ => simp [wr]
    | [], _ => exact hp.elim, fun v hv => ⟨[v], hv, rfl, by simp [wr]⟩⟩
  have step : ∀ (t : Nat) (S : Nat → Nat → Prop) (w : WF) (u v : Nat), u < n → v < n → LJ n (shf (df c) μ) t S w → ∃ s', P.lifted_L1 (.int (u : Int)) (enCm n c) (enQ μ) (wl n w) (.int (v : Int)) = some s' ∧ ∃ w', s' = wl n w' ∧ LJ n (shf (df c) μ) t (fun x y => S x y ∨ (x = u ∧ y = v)) w' := fun t S w u v hu hv hj => by
    have su := lift_sz h hm hneg hj.li hu
    have sv := lift_sz h hm hneg hj.li hv
    have a1 := h.lo u v hu hv
    have a2 := h.hi u v hu hv
    have a3 := h.lo u u hu hu
    have a4 := h.hi u u hu hu
    have sa : SzQ 50 ((c u v - c u u : Int) : Rat) := szq_ofInt (by unfold Sz; omega) (by decide)
    have s1 := szq_add su sa
    have s2 := szq_sub s1 hm
    have eA : w u + ((c u v - c u u : Int) : Rat) - μ = w u + shf (df c) μ u v := by unfold shf df; grind
    have il := p_isless (s2.mono (by decide : _ ≤ 100000)) (sv.mono (by decide : _ ≤ 100000))
    rw [eA] at il
    refine ⟨_, ?_, _, rfl, hj.step hu hv⟩
    unfold P.lifted_L1
    simp only [c_xop, ix_wl hu, ix_wl hv, ix_Cm hu, ix_rowC hu, ix_rowC hv, c_sub, c_xtup, c_xseq1, c_xseq0, Option.map_some, int_Q, c_ap2, p_plus (su.mono (by decide)) (sa.mono (by decide)), p_minus (s1.mono (by decide)) (hm.mono (by decide)), Option.bind_some, c_nei, c_xbool, c_xand, eA, il, Int.natCast_inj]
    by_cases huv : u = v
    · subst huv; simp
    · by_cases hlt : w u + shf (df c) μ u v < w v
      · simp only [huv, hlt, decide_true, decide_false, Bool.not_false, c_xif_t, set_wl hv, Option.bind_some, ne_eq, not_false_eq_true, and_self, if_true]
      · simp only [huv, hlt, decide_false, Bool.not_false, c_xif_t, c_xif_f, Option.bind_some, and_false, if_false]
  have turn : ∀ (t : Nat) (w : WF), LI n (shf (df c) μ) t w → ∃ s', P.lifted_L3 (.int (n : Int)) (enCm n c) (enQ μ) (wl n w) (.int (t : Int)) = some s' ∧ ∃ w', s' = wl n w' ∧ LI n (shf (df c) μ) (t + 1) w' := fun t w hi => by
    obtain ⟨s, k1, w', k2, k3⟩ := fold_range (step := fun s d => P.lifted_L2 (.int (n : Int)) (enCm n c) (enQ μ) s d) (fun u s => ∃ w', s = wl n w' ∧ LJ n (shf (df c) μ) t (fun x y => x < u) w') n (wl n w) ⟨w, rfl, hi, fun u v s => by omega⟩ (fun u s hu hs => by
      obtain ⟨w1, rfl, hj⟩ := hs
      obtain ⟨s2, m1, w2, m2, m3⟩ := fold_range (step := fun s d => P.lifted_L1 (.int (u : Int)) (enCm n c) (enQ μ) s d) (fun v s => ∃ w', s = wl n w' ∧ LJ n (shf (df c) μ) t (fun x y => x < u ∨ (x = u ∧ y < v)) w') n (wl n w1) ⟨w1, rfl, hj.congr fun x y _ _ z => by omega⟩ (fun v s hv hs => by
        obtain ⟨w2, rfl, hj2⟩ := hs
        obtain ⟨s', b1, w3, b2, b3⟩ := step t _ w2 u v hu hv hj2
        exact ⟨s', b1, w3, b2, b3.congr fun x y _ _ z => by omega⟩)
      refine ⟨s2, ?_, w2, m2, m3.congr fun x y hx hy z => by omega⟩
      unfold P.lifted_L2
      simp only [c_irng1, sm, if_true, Option.bind_some, m1])
    refine ⟨s, ?_, w', k2, k3.turn fun x y hx hy => hx⟩
    unfold P.lifted_L3
    simp only [c_irng1, sm, if_true, Option.bind_some, k1]
  obtain ⟨s, k1, w', k2, k3⟩ := fold_range (step := fun s d => P.lifted_L3 (.int (n : Int)) (enCm n c) (enQ μ) s d) (fun t s => ∃ w', s = wl n w' ∧ LI n (shf (df c) μ) t w') n (wl n fun _ => 0) ⟨_, rfl, l0⟩ (fun t s ht hs => by
    obtain ⟨w1, rfl, hi⟩ := hs
    exact turn t w1 hi)
  refine ⟨w', ?_, k3⟩
  have hr : rep62 [enQ 0].length (n : Int) := by
    refine ⟨by omega, by omega, ?_⟩
    simp [LIM]; omega
  unfold P.lifted
  simp only [c_xf1, len_Cm, Option.bind_some, ev_pure, c_xlst, c_xtup, c_xseq1, c_xseq0, Option.map_some, zero_Q, rep_of hr, Int.toNat_natCast, rep_wl, c_irng1, sm, if_true, k1, k2]
end C
namespace C
open PySem PySem.Spec PyProof.Rows L2 M N B

/-- what the dearest round wastes: a round that does, worths that show that none wastes more -/
structure DearOk (n : Nat) (c : CF) (x : Rat) (p : List Nat) (w : WF) : Prop where
  rnd : IsRnd n p
  wst : (((owns c p).sum - (steps c p).sum : Int) : Rat) = x * (p.length : Rat)
  fit : ∀ i j, i < n → j < n → i ≠ j → w j ≤ w i + ((c i j - c i i : Int) : Rat) + x
  szx : SzQ 110 x
  szw : ∀ i, i < n → SzQ 300 (w i)
def dearD (x : Rat) (p : List Nat) (n : Nat) (w : WF) : D := .tuple [enQ x, .list (enI (natI p)), .list (wl n w)]
def tgB (A : AF) (w : WF) (u v : Nat) : Bool := decide (u ≠ v) && decide (w v = w u + A u v)
theorem Tg_iff {n : Nat} {A : AF} {w : WF} (u v : Nat) : Tg n A w u v ↔ Wb n (tgB A w) u v := by
  unfold Tg Wb tgB; simp
/-- along tight steps worths tell what a way comes to -/
theorem tight_sum {n : Nat} {c : CF} {μ : Rat} {w : WF} : ∀ {p : List Nat} {a b : Nat}, Steps (Wb n (tgB (shf (df c) μ) w)) p → p.head? = some a → p.getLast? = some b → w b = w a + (sumS c p : Rat) - ((p.length - 1 : Nat) : Rat) * μ
  | [], _, _, _, h, _ => by simp at h
  | [x], a, b, _, h1, h2 => by simp at h1 h2; subst h1 h2; simp [sumS]; grind
  | x :: y :: r, a, b, st, h1, h2 => by
    simp at h1; subst h1
    have ih := tight_sum (a := y) (b := b) st.2 rfl (by simpa [List.getLast?_cons_cons] using h2)
    obtain ⟨_, _, t⟩ := st.1
    unfold tgB at t
    simp only [Bool.and_eq_true, decide_eq_true_eq] at t
    have t2 : w y = w x + shf (df c) μ x y := t.2
    unfold shf df at t2
    rw [ih, t2]
    simp only [sumS, List.length_cons, Nat.add_sub_cancel]
    push_cast
    grind
set_option maxHeartbeats 1000000 in
theorem dearest {m : Nat} {bk : List Buy} (v : ValidBook m bk) (h13 : bk.length ≤ 13) (n2 : 2 ≤ bk.length) : ∃ x p w, P.dearest (enBk bk) = some (dearD x p bk.length w) ∧ DearOk bk.length (cM bk) x p w := by
  have hc := v.cst h13
  obtain ⟨n, hn⟩ : ∃ n, bk.length = n := ⟨_, rfl⟩
  obtain ⟨c, hcc⟩ : ∃ c, cM bk = c := ⟨_, rfl⟩
  rw [hn, hcc] at hc
  rw [hn] at n2 h13
  have sm : smallI (n : Int) := small_of (by omega) (by omega)
  obtain ⟨μ, m1, sμ, m2⟩ := least_mean hc n2
  have hneg := fun v y hcl => m2.no_less (by omega) (fun u v hu hv => shf_lo hc sμ u v hu hv) (by exact_mod_cast Nat.zero_le MX) v y hcl
  obtain ⟨w, l1, l2⟩ := lifted hc sμ hneg
  have fit := l2.fit hneg
  obtain ⟨A, hA⟩ : ∃ A, shf (df c) μ = A := ⟨_, rfl⟩
  have szw : ∀ i, i < n → SzQ 300 (w i) := fun i hi => lift_sz hc sμ hneg l2 hi
  have sx : SzQ 110 (-μ) := (szq_neg sμ).mono (by decide)
  -- the ways
  have ways : fold (fun s d => P.dearest_L2 (enBk bk) (.list (wl n w)) (enCm n c) (enQ μ) s d) (rangeD 0 (n : Int)) [] = some ((List.range n).map fun u => .list ((List.range n).map fun v => .bool (tgB A w u v))) := by
    refine fold_appR n _ (by omega) fun u hu acc ha => ?_
    have inner : fold (fun s d => P.dearest_L1 (.list (wl n w)) (.int (u : Int)) (enCm n c) (enQ μ) s d) (rangeD 0 (n : Int)) [] = some ((List.range n).map fun v => .bool (tgB A w u v)) := by
      refine fold_appR n _ (by omega) fun v hv acc ha => ?_
      have a1 := hc.lo u v hu hv
      have a2 := hc.hi u v hu hv
      have a3 := hc.lo u u hu hu
      have a4 := hc.hi u u hu hu
      have sa : SzQ 50 ((c u v - c u u : Int) : Rat) := szq_ofInt (by unfold Sz; omega) (by decide)
      have s1 := szq_add (szw u hu) sa
      have eA : w u + ((c u v - c u u : Int) : Rat) - μ = w u + A u v := by rw [← hA]; unfold shf df; grind
      unfold P.dearest_L1
      simp only [c_xop, ix_wl hu, ix_wl hv, ix_Cm hu, ix_rowC hu, ix_rowC hv, c_sub, c_xtup, c_xseq1, c_xseq0, Option.map_some, int_Q, c_ap2, p_plus ((szw u hu).mono (by decide)) (sa.mono (by decide)), p_minus (s1.mono (by decide)) (sμ.mono (by decide)), Option.bind_some, eA, c_nei, c_xmand, c_xbool, eq_Q, Int.natCast_inj]
      by_cases huv : u = v
      · subst huv; simp [tgB, apd_of ha]
      · simp only [huv, decide_false, Bool.not_false, c_xif_t, Option.bind_some, apd_of ha, tgB, ne_eq, not_false_eq_true, decide_true, Bool.true_and]
        rw [show decide (w u + A u v = w v) = decide (w v = w u + A u v) from decide_eq_decide.mpr eq_comm]
    unfold P.dearest_L2
    simp only [c_xseq0, Option.bind_some, c_xf1, len_Bk, hn, c_irng1, sm, if_true, inner, apd_of ha]
  have ew : PyData.list ((List.range n).map fun u => .list ((List.range n).map fun v => .bool (tgB A w u v))) = enW (bRows n (tgB A w)) := by
    simp [enW, bRows, enBl, List.map_map, Function.comp_def]
  -- an edge that goes back
  have edge : ∃ u v, u < n ∧ v < n ∧ tgB A w u v = true ∧ Reach (Wb n (tgB A w)) v u := by
    obtain ⟨x, y, c1, c2⟩ := m2.round (by omega)
    rw [hA] at c2 fit
    have hx := c1.lt x List.mem_cons_self
    cases y with
    | nil => exact absurd rfl c1.2.1
    | cons u r =>
      have c1' : RWk n (x :: u :: (r ++ [x])) := c1
      have hu := c1'.2.2.lt u List.mem_cons_self
      have hl : (u :: (r ++ [x])).getLast? = some x := by
        rw [show u :: (r ++ [x]) = (u :: r) ++ [x] from rfl, List.getLast?_append]; rfl
      have c2' : A u x + wr A (u :: (r ++ [x])) ≤ 0 := c2
      have f1 := fit u x hu hx c1'.2.1
      have f2 := pot_le fit c1'.2.2 rfl hl
      have rc := tight_all fit c1'.2.2 rfl hl (by grind)
      have hne : u ≠ x := c1'.2.1
      refine ⟨u, x, hu, hx, by unfold tgB; rw [decide_eq_true hne, Bool.true_and]; exact decide_eq_true (by grind), ?_⟩
      have := reach_map (W := Tg n A w) (W' := Wb n (tgB A w)) id (fun a b h => (Tg_iff a b).mp h) rc
      exact this
  -- the search
  have key := foldC_range (step := fun s d => P.dearest_L4 (enBk bk) ((List.range n).map fun u => .list ((List.range n).map fun v => .bool (tgB A w u v))) (enQ μ) (.list (wl n w)) d) (fun i _ => ∀ u v, u < i → v < n → tgB A w u v = true → ¬ Reach (Wb n (tgB A w)) v u) (fun r => ∃ p, r = dearD (-μ) p n w ∧ DearOk n c (-μ) p w) n () (by intro u v h; omega) (fun u _ hu hI => by
    have kin := foldC_range (step := fun s d => P.dearest_L3 ((List.range n).map fun u => .list ((List.range n).map fun v => .bool (tgB A w u v))) (.int (u : Int)) (enQ μ) (.list (wl n w)) d) (fun i _ => ∀ v, v < i → tgB A w u v = true → ¬ Reach (Wb n (tgB A w)) v u) (fun r => ∃ p, r = dearD (-μ) p n w ∧ DearOk n c (-μ) p w) n () (by intro v h; omega) (fun x _ hx hI2 => by
      have ix : op2 idxT (.list ((List.range n).map fun u => .list ((List.range n).map fun v => .bool (tgB A w u v)))) (.int (u : Int)) = some (.list ((List.range n).map fun v => .bool (tgB A w u v))) := by rw [c_ixl, at_range hu]
      have ix2 : op2 idxT (.list ((List.range n).map fun v => PyData.bool (tgB A w u v))) (.int (x : Int)) = some (.bool (tgB A w u x)) := by rw [c_ixl, at_range hx]
      rw [ew] at ix
      have ov := p_over (p := μ) (k := -1) (by decide) (sμ.mono (by decide)) (by unfold Sz; decide)
      have eov : μ / ((-1 : Int) : Rat) = -μ := by
        have : ((-1 : Int) : Rat) = -1 := rfl
        rw [this]; grind
      rw [eov] at ov
      obtain ⟨r, w1, w2, w3⟩ := p_way (n := n) (tgB A w) (by omega) hx hu
      unfold P.dearest_L3
      simp only [c_xop, ix, ix2, c_xbool, ew]
      cases ht : tgB A w u x with
      | false =>
        left
        refine ⟨(), by simp, fun v hv htv => ?_⟩
        rcases Nat.lt_succ_iff_lt_or_eq.mp hv with z | rfl
        · exact hI2 v z htv
        · rw [ht] at htv; cases htv
      | true =>
        simp only [c_xif_t, c_ap3, w1, Option.bind_some]
        cases r with
        | none =>
          left
          refine ⟨(), by simp [enR], fun v hv htv => ?_⟩
          rcases Nat.lt_succ_iff_lt_or_eq.mp hv with z | rfl
          · exact hI2 v z htv
          · intro hr; simp [← w3] at hr
        | some p =>
          right
          obtain ⟨y1, y2⟩ := w2 p rfl
          refine ⟨dearD (-μ) p n w, ?_, p, rfl, ?_⟩
          · simp only [enR, c_notnl, c_xbool, c_xif_t, c_sub, c_ap2, (by decide : (0 : Int) - 1 = -1), ov, c_xtup, c_xseq1, c_xseq0, Option.map_some, dearD]
          · have hne : u ≠ x := by
              intro e; subst e; simp [tgB] at ht
            have hlen : 2 ≤ p.length := by
              match p, y1 with
              | [], y1 => exact absurd y1.hd (by simp)
              | [z], y1 =>
                have a1 := y1.hd; have a2 := y1.lst
                simp at a1 a2
                omega
              | _ :: _ :: _, _ => simp
            refine ⟨⟨hlen, y1.nd, y2⟩, ?_, fun i j hi hj hij => ?_, sx, szw⟩
            · have ts := tight_sum (μ := μ) (c := c) (w := w) (n := n) (by rw [hA]; exact y1.st) y1.hd y1.lst
              have cs := clos_sum c x y1.lst
              have e1 : steps c p = clos c x p := by
                unfold steps
                have := y1.hd
                cases p with
                | nil => simp at this
                | cons z r => simp at this; subst this; rfl
              rw [e1]
              unfold tgB at ht
              simp only [Bool.and_eq_true, decide_eq_true_eq] at ht
              have t2 : w x = w u + shf (df c) μ u x := by rw [hA]; exact ht.2
              unfold shf df at t2
              have e2 : (((owns c p).sum - (clos c x p).sum : Int) : Rat) = -((sumS c p : Rat) + ((c u x - c u u : Int) : Rat)) := by
                have : (owns c p).sum - (clos c x p).sum = -(sumS c p + (c u x - c u u)) := by omega
                rw [this]; push_cast; grind
              have e3 : ((p.length - 1 : Nat) : Rat) = (p.length : Rat) - 1 := by
                have : ((p.length - 1 : Nat) : Rat) + 1 = (p.length : Rat) := by exact_mod_cast (by omega : p.length - 1 + 1 = p.length)
                grind
              rw [e2]
              rw [e3] at ts
              grind
            · have := fit i j hi hj hij
              unfold shf df at this
              grind)
    rcases kin with ⟨s', k1, k2⟩ | ⟨r, k1, k2⟩
    · left
      refine ⟨(), ?_, fun a b ha hb htb => ?_⟩
      · unfold P.dearest_L4
        simp only [c_xf1, len_Bk, hn, c_irng1, sm, if_true, Option.bind_some, k1, c_aft1]
      · rcases Nat.lt_succ_iff_lt_or_eq.mp ha with z | rfl
        · exact hI a b z hb htb
        · exact k2 b hb htb
    · right
      refine ⟨r, ?_, k2⟩
      unfold P.dearest_L4
      simp only [c_xf1, len_Bk, hn, c_irng1, sm, if_true, Option.bind_some, k1, c_aft2])
  have hd2 : ¬ ((n : Int) < 2) := by omega
  rcases key with ⟨s', k1, k2⟩ | ⟨r, k1, p, rfl, k2⟩
  · obtain ⟨u, x, e1, e2, e3, e4⟩ := edge
    exact absurd e4 (k2 u x e1 e2 e3)
  · refine ⟨-μ, p, w, ?_, by rw [hn, hcc]; exact k2⟩
    unfold P.dearest
    simp only [c_xf1, len_Bk, hn, c_xop, c_lt, hd2, decide_false, c_xbool, c_xif_f, c_ap1, p_costs v (by omega : bk.length ≤ 1000), hcc, Option.bind_some, m1, c_ap2, l1, c_xseq0, c_irng1, sm, if_true, ways, k1, c_aft2]
end C
namespace B
open PySem PySem.Spec PyProof.Rows L2 M N
end B
namespace C
open PySem PySem.Spec PyProof.Rows L2 M N B
end C
namespace C
open PySem PySem.Spec PyProof.Rows L2 M N B

abbrev AmF := Nat → Nat → Int
structure FOk (m n : Nat) (p a : AmF) : Prop where
  pr : ∀ k g, k < m → g < n → 1 ≤ p k g ∧ p k g ≤ 1000000
  am : ∀ k g, k < m → g < n → 0 ≤ a k g ∧ a k g ≤ 1000000
  ps : ∀ k, k < m → ∃ g, g < n ∧ 0 < a k g
section
variable {m n : Nat} {p a : AmF}
end
end C
namespace C
open PySem PySem.Spec PyProof.Rows L2 M N B

theorem modB {x : Int} {k : Int} (hk : 0 < k) : 0 ≤ x.fmod k ∧ x.fmod k < k := by
  rw [fmod_pos hk]
  exact ⟨Int.emod_nonneg _ (by omega), Int.emod_lt_of_pos _ hk⟩
end C
namespace C
open PySem PySem.Spec PyProof.Rows L2 M N B

def gap (c : CF) (p : List Nat) : Int := (owns c p).sum - (steps c p).sum
section
variable {n : Nat} {c c' c1 c2 : CF}
theorem steps_clos {c : CF} {p : List Nat} {a : Nat} (h : p.head? = some a) : steps c p = clos c a p := by
  unfold steps
  cases p with
  | nil => simp at h
  | cons z r => simp at h; subst h; rfl
theorem gap_eq {p : List Nat} {a b : Nat} (h1 : p.head? = some a) (h2 : p.getLast? = some b) : gap c p = -(sumS c p + (c b a - c b b)) := by
  have := clos_sum c a h2
  unfold gap
  rw [steps_clos h1]
  omega
theorem rnd_ends {p : List Nat} (r : IsRnd n p) : ∃ a b, p.head? = some a ∧ p.getLast? = some b ∧ a < n ∧ b < n ∧ a ≠ b := by
  match p, r with
  | [], r => exact absurd r.len (by simp)
  | [x], r => exact absurd r.len (by simp)
  | x :: y :: q, r =>
    have hl : (x :: y :: q).getLast? = some ((y :: q).getLast (by simp)) := by
      rw [List.getLast?_cons_cons, List.getLast?_eq_some_getLast (by simp)]
    have hm : (y :: q).getLast (by simp) ∈ y :: q := List.getLast_mem _
    refine ⟨x, _, rfl, hl, r.lt x List.mem_cons_self, r.lt _ (List.mem_cons_of_mem _ hm), fun e => ?_⟩
    have := (List.nodup_cons.mp r.nd).1
    rw [e] at this
    exact this hm
theorem sumS_congr {p : List Nat} (hp : ∀ x ∈ p, x < n) (h : ∀ i j, i < n → j < n → c i j - c i i = c' i j - c' i i) : sumS c p = sumS c' p := by
  match p with
  | [] => rfl
  | [_] => rfl
  | x :: y :: r =>
    have ih := sumS_congr (p := y :: r) (fun z hz => hp z (List.mem_cons_of_mem _ hz)) h
    simp only [sumS]
    rw [ih, h x y (hp x (by simp)) (hp y (by simp))]
theorem gap_congr {p : List Nat} (r : IsRnd n p) (h : ∀ i j, i < n → j < n → c i j - c i i = c' i j - c' i i) : gap c p = gap c' p := by
  obtain ⟨a, b, h1, h2, ha, hb, _⟩ := rnd_ends r
  rw [gap_eq h1 h2, gap_eq h1 h2, sumS_congr r.lt h, h b a hb ha]
theorem fit_sum {w : WF} {x : Rat} (hf : ∀ i j, i < n → j < n → i ≠ j → w j ≤ w i + ((c i j - c i i : Int) : Rat) + x) : ∀ {p : List Nat} {a b : Nat}, (∀ x ∈ p, x < n) → p.Nodup → p.head? = some a → p.getLast? = some b → w b ≤ w a + (sumS c p : Rat) + ((p.length - 1 : Nat) : Rat) * x
  | [], _, _, _, _, h, _ => by simp at h
  | [z], a, b, _, _, h1, h2 => by simp at h1 h2; subst h1 h2; simp [sumS]; grind
  | z :: y :: r, a, b, hp, nd, h1, h2 => by
    simp at h1; subst h1
    have ih := fit_sum hf (a := y) (b := b) (fun q hq => hp q (List.mem_cons_of_mem _ hq)) (List.nodup_cons.mp nd).2 rfl (by simpa [List.getLast?_cons_cons] using h2)
    have hne : z ≠ y := fun e => (List.nodup_cons.mp nd).1 (by rw [e]; exact List.mem_cons_self)
    have := hf z y (hp z (by simp)) (hp y (by simp)) hne
    simp only [sumS, List.length_cons, Nat.add_sub_cancel] at ih ⊢
    push_cast at ih this ⊢
    grind
/-- no round wastes more than worths show -/
theorem DearOk.most {x : Rat} {p0 : List Nat} {w : WF} (h : DearOk n c x p0 w) {p : List Nat} (r : IsRnd n p) : ((gap c p : Int) : Rat) ≤ x * (p.length : Rat) := by
  obtain ⟨a, b, h1, h2, ha, hb, hab⟩ := rnd_ends r
  have f1 := fit_sum h.fit r.lt r.nd h1 h2
  have f2 := h.fit b a hb ha (fun e => hab e.symm)
  rw [gap_eq h1 h2]
  have e3 : ((p.length - 1 : Nat) : Rat) = (p.length : Rat) - 1 := by
    have := r.len
    have : ((p.length - 1 : Nat) : Rat) + 1 = (p.length : Rat) := by exact_mod_cast (by omega : p.length - 1 + 1 = p.length)
    grind
  rw [e3] at f1
  push_cast at f2 ⊢
  grind
theorem len_pos {p : List Nat} (r : IsRnd n p) : (0 : Rat) < (p.length : Rat) := by
  have := r.len
  exact_mod_cast (by omega : 0 < p.length)
theorem le_of_mul_len {a b l : Rat} (hl : 0 < l) (h : a * l ≤ b * l) : a ≤ b := by
  apply Classical.byContradiction
  intro hc
  have : b < a := by grind
  have := Rat.mul_lt_mul_of_pos_right this hl
  grind
theorem dear_le {x x' : Rat} {p p' : List Nat} {w w' : WF} (h : DearOk n c x p w) (h' : DearOk n c' x' p' w') (hg : ∀ q, IsRnd n q → gap c q ≤ gap c' q) : x ≤ x' := by
  have h1 := h.wst
  have h2 := h'.most h.rnd
  have h3 : ((gap c p : Int) : Rat) ≤ ((gap c' p : Int) : Rat) := by exact_mod_cast hg p h.rnd
  refine le_of_mul_len (len_pos h.rnd) ?_
  have h4 : ((gap c p : Int) : Rat) = x * (p.length : Rat) := h1
  grind
theorem dear_eq {x x' : Rat} {p p' : List Nat} {w w' : WF} (h : DearOk n c x p w) (h' : DearOk n c' x' p' w') (hg : ∀ q, IsRnd n q → gap c q = gap c' q) : x = x' :=
  Rat.le_antisymm (dear_le h h' fun q r => by rw [hg q r]; exact Int.le_refl _) (dear_le h' h fun q r => by rw [hg q r]; exact Int.le_refl _)
end
end C
namespace C
open PySem PySem.Spec PyProof.Rows L2 M N B

theorem slice_bk_to {bk : List Buy} {k : Nat} : (sliceT (.p (enBk bk)) none (some (k : Int))).bind T.pure? = some (enBk (bk.take k)) := by
  unfold enBk
  simp only [sliceT, ev_seql, Option.bind_some, T.pure?]
  rw [cut_upto, List.map_take]
theorem slice_bk_from {bk : List Buy} {k : Nat} (h : k ≤ bk.length) : (sliceT (.p (enBk bk)) (some (k : Int)) none).bind T.pure? = some (enBk (bk.drop k)) := by
  unfold enBk
  simp only [sliceT, ev_seql, Option.bind_some, T.pure?]
  rw [cut_from _ _ (by simpa using h), List.map_drop]
section
variable {m n : Nat} {p : AmF} {as : List AmF}
end
end C
namespace C
open PySem PySem.Spec PyProof.Rows L2 M N B

/-- the law's search, so far -/
structure AB (n : Nat) (c : CF) (v : Nat) (fs : List Nat) (at' : Nat) : Prop where
  nd : fs.Nodup
  lt : ∀ x ∈ fs, x < n
  rc : ∀ x ∈ fs, Reach (Op n c) x v
  st : v ∈ fs
  le : at' ≤ fs.length
  cl : ∀ i y, i < at' → fs[i]? = some y → ∀ k, k < n → c k y ≤ c k k → k ∈ fs
theorem AB.all {n : Nat} {c : CF} {v : Nat} {fs : List Nat} (h : AB n c v fs fs.length) {k : Nat} (hk : Reach (Op n c) k v) : k ∈ fs := by
  have key : ∀ {a b : Nat}, Reach (Op n c) a b → b ∈ fs → a ∈ fs := by
    intro a b r
    induction r with
    | refl => exact fun h => h
    | step r w ih =>
      rename_i x y
      intro hy
      obtain ⟨i, hi, e⟩ := List.mem_iff_getElem.mp hy
      obtain ⟨w1, w2, w3⟩ := w
      have w4 : c x y ≤ c x x := by have := w3; unfold opn at this; simp at this; exact this.2
      exact ih (h.cl i y hi (by rw [List.getElem?_eq_getElem hi, e]) x w1 w4)
  exact key hk h.st
end C
namespace C
open PySem PySem.Spec PyProof.Rows L2 M N B

theorem int_bool (b : Bool) : xf1 intT (some (.bool b)) = some (.int (if b then 1 else 0)) := by cases b <;> rfl
end C
namespace B
open PySem PySem.Spec PyProof.Rows L2 M

end B
namespace B
open PySem PySem.Spec PyProof.Rows L2 M

end B
namespace B
open PySem PySem.Spec PyProof.Rows L2 M

structure GoodCh (b : Buy) : Prop where
  o1 : 1 ≤ b.1.length
  o12 : b.1.length ≤ 12
  t1 : 1 ≤ b.2.length
  on : b.1.Nodup
  tn : b.2.Nodup
  sub : ∀ x ∈ b.2, x ∈ b.1
  rng : ∀ x ∈ b.1, 0 ≤ x ∧ x < 100
structure GoodThings (ts : List Int) : Prop where
  l1 : 1 ≤ ts.length
  l2 : ts.length ≤ 60
  nd : ts.Nodup
  rng : ∀ x ∈ ts, 0 ≤ x ∧ x < 100
structure GoodOff (ts os : List Int) : Prop where
  l1 : 1 ≤ os.length
  l12 : os.length ≤ 12
  nd : os.Nodup
  sub : ∀ x ∈ os, x ∈ ts
end B
namespace B
open PySem PySem.Spec PyProof.Rows L2 M

end B
namespace C
open PySem PySem.Spec PyProof.Rows L2 M N B

/-- a log that can be told of -/
structure LogOk (lg : List Buy) : Prop where
  ch : ∀ b ∈ lg, GoodCh b
  few : ∃ th : List Int, th.length < 64 ∧ ∀ b ∈ lg, ∀ x ∈ b.1, x ∈ th
def off (lg : List Buy) (k : Nat) : Bool := lg.any fun b => decide ((k : Int) ∈ b.1)
def plc (lg : List Buy) : List Nat := (List.range 100).filter (off lg)
theorem Dk.mem {n : Nat} {b : List (Key × D)} {f : Nat → Option D} (h : Dk n b f) {k : Nat} : (∃ d, ((.inl (k : Int) : Key), d) ∈ b) ↔ f k ≠ none := by
  rw [← h.val k]
  unfold valD
  constructor
  · rintro ⟨d, hd⟩
    cases e : b.find? fun kv => decide (kv.1 = .inl (k : Int)) with
    | none => rw [List.find?_eq_none] at e; have := e _ hd; simp at this
    | some x => simp
  · intro h
    cases e : b.find? fun kv => decide (kv.1 = .inl (k : Int)) with
    | none => rw [e] at h; simp at h
    | some x =>
      have h1 := List.find?_some e
      have h2 := List.mem_of_find?_eq_some e
      simp only [decide_eq_true_eq] at h1
      exact ⟨x.2, by rw [← h1]; exact h2⟩
end C
namespace C
open PySem PySem.Spec PyProof.Rows L2 M N B

abbrev BF2 := Nat → Nat → Bool
def bm (m : Nat) (f : BF2) : List (List D) := (List.range m).map fun i => (List.range m).map fun j => PyData.bool (f i j)
def pI (lg : List Buy) (i : Nat) : Int := ((plc lg).getD i 0 : Nat)
/-- a step from thing to thing; a strict one -/
def St1 (lg : List Buy) (x y : Int) : Prop := x ≠ y ∧ ∃ b ∈ lg, x ∈ b.2 ∧ y ∈ b.1
def St2 (lg : List Buy) (x y : Int) : Prop := x ≠ y ∧ ∃ b ∈ lg, x ∈ b.2 ∧ y ∈ b.1 ∧ y ∉ b.2
structure WInv (lg : List Buy) (A B : Int → Int → Prop) (s : List (List D) × List (List D)) : Prop where
  ex : ∃ f g : BF2, s = (bm (plc lg).length f, bm (plc lg).length g) ∧ ∀ i j, i < (plc lg).length → j < (plc lg).length → (f i j = true ↔ A (pI lg i) (pI lg j)) ∧ (g i j = true ↔ B (pI lg i) (pI lg j))
theorem WInv.congr {lg : List Buy} {A B A' B' : Int → Int → Prop} {s : List (List D) × List (List D)} (h : WInv lg A B s) (ha : ∀ x y, A x y ↔ A' x y) (hb : ∀ x y, B x y ↔ B' x y) : WInv lg A' B' s := by
  obtain ⟨f, g, e, h⟩ := h.ex
  exact ⟨f, g, e, fun i j hi hj => ⟨(h i j hi hj).1.trans (ha _ _), (h i j hi hj).2.trans (hb _ _)⟩⟩
end C
namespace C
open PySem PySem.Spec PyProof.Rows L2 M N B

def fS (S : Nat → Bool) : Nat → Option D := fun k => if S k then some (.bool true) else none
/-- the search so far: S found, wt still to be looked at -/
structure RS (m : Nat) (f : BF2) (i : Nat) (S : Nat → Bool) (b : List (Key × D)) (wt : List Nat) : Prop where
  dk : Dk m b (fS S)
  st : S i = true
  lt : ∀ k, S k = true → k < m
  rc : ∀ k, S k = true → Reach (Wb m f) i k
  ws : ∀ k ∈ wt, S k = true
  wn : wt.Nodup
  cl : ∀ k, S k = true → k ∉ wt → ∀ j, Wb m f k j → S j = true
theorem RS.full {m : Nat} {f : BF2} {i : Nat} {S : Nat → Bool} {b : List (Key × D)} (h : RS m f i S b []) {k : Nat} (r : Reach (Wb m f) i k) : S k = true := by
  induction r with
  | refl => exact h.st
  | step r w ih => exact h.cl _ ih (by simp) _ w
def cnt (m : Nat) (S : Nat → Bool) : Nat := ((List.range m).filter fun k => !S k).length
end C
namespace C
open PySem PySem.Spec PyProof.Rows L2 M N B

/-- what a choosing asks of ranks -/
def RankOk (r : Int → Nat) (b : Buy) : Prop := ∀ x ∈ b.1, (x ∈ b.2 ↔ ∀ y ∈ b.1, r x ≤ r y)
def HasLv (lg : List Buy) : Prop := ∃ r : Int → Nat, ∀ b ∈ lg, RankOk r b
/-- levels by ranks: level i holds the things of rank i, rising -/
structure LvOk (lg : List Buy) (ls : List (List Int)) (r : Int → Nat) : Prop where
  ok : ∀ b ∈ lg, RankOk r b
  at' : ∀ (i : Nat) (l : List Int), ls[i]? = some l → l ≠ [] ∧ l.Pairwise (· < ·) ∧ ∀ x, x ∈ l ↔ ((∃ b ∈ lg, x ∈ b.1) ∧ r x = i)
  all : ∀ b ∈ lg, ∀ x ∈ b.1, r x < ls.length
/-- a round of things that bars -/
structure RndL (lg : List Buy) (xs : List Int) : Prop where
  len : 2 ≤ xs.length
  nd : xs.Nodup
  st : ∀ i, i + 1 < xs.length → St1 lg (xs.getD i 0) (xs.getD (i + 1) 0)
  bk : St2 lg (xs.getD (xs.length - 1) 0) (xs.getD 0 0)
def enLs (ls : List (List Int)) : D := .list (ls.map fun l => .list (enI l))
inductive ToldL (lg : List Buy) : D → Prop
  | levels (ls : List (List Int)) (r : Int → Nat) : LvOk lg ls r → ToldL lg (.tuple [.str "levels", enLs ls])
  | round (xs : List Int) : RndL lg xs → ToldL lg (.tuple [.str "round", .list (enI xs)])
open Classical in
/-- the levels so far, and what is left, by places -/
structure LV (m : Nat) (f : BF2) (Ls : List (List Nat)) (left : List Nat) : Prop where
  srt : left.Pairwise (· < ·)
  lt : ∀ k ∈ left, k < m
  lsr : ∀ L ∈ Ls, L ≠ [] ∧ L.Pairwise (· < ·) ∧ ∀ k ∈ L, k < m
  all : ∀ k, k < m → k ∈ left ∨ ∃ L ∈ Ls, k ∈ L
  dsj : ∀ k ∈ left, ∀ L ∈ Ls, k ∉ L
  ds2 : ∀ (i j : Nat) (Li Lj : List Nat), Ls[i]? = some Li → Ls[j]? = some Lj → i ≠ j → ∀ k ∈ Li, k ∉ Lj
  top : ∀ (i : Nat) (Li : List Nat), Ls[i]? = some Li → ∀ y ∈ Li, ∀ x, x < m → Reach (Wb m f) x y → ((∃ (j : Nat) (Lj : List Nat), j ≤ i ∧ Ls[j]? = some Lj ∧ x ∈ Lj) ∧ (x ∈ Li → Reach (Wb m f) y x))
/-- all levels told: ranks -/
theorem LV.rank {m : Nat} {f : BF2} {Ls : List (List Nat)} (h : LV m f Ls []) : ∃ r : Nat → Nat, (∀ i L, Ls[i]? = some L → ∀ k, k ∈ L ↔ k < m ∧ r k = i) ∧ (∀ k, k < m → r k < Ls.length) ∧ ∀ x y, x < m → y < m → Reach (Wb m f) x y → r x ≤ r y ∧ (r x = r y → Reach (Wb m f) y x) := by
  classical
  have ex : ∀ k, k < m → ∃ i, ∃ L, Ls[i]? = some L ∧ k ∈ L := fun k hk => by
    rcases h.all k hk with z | ⟨L, hL, hk'⟩
    · simp at z
    · obtain ⟨n, hn, e⟩ := List.mem_iff_getElem.mp hL
      exact ⟨n, L, by rw [List.getElem?_eq_getElem hn, e], hk'⟩
  let r : Nat → Nat := fun k => if hk : k < m then Classical.choose (ex k hk) else 0
  have rs : ∀ k (hk : k < m), ∃ L, Ls[r k]? = some L ∧ k ∈ L := fun k hk => by
    have e : r k = Classical.choose (ex k hk) := dif_pos hk
    rw [e]; exact Classical.choose_spec (ex k hk)
  have uniq : ∀ k i L, k < m → Ls[i]? = some L → k ∈ L → r k = i := fun k i L hk hi hL => by
    obtain ⟨L', a, b⟩ := rs k hk
    apply Classical.byContradiction
    intro hn
    exact h.ds2 (r k) i L' L a hi hn k b hL
  refine ⟨r, fun i L hi k => ⟨fun hk => ?_, fun ⟨hk, e⟩ => ?_⟩, fun k hk => ?_, fun x y hx hy rc => ?_⟩
  · have hk' := (h.lsr L (List.mem_of_getElem? hi)).2.2 k hk
    exact ⟨hk', uniq k i L hk' hi hk⟩
  · obtain ⟨L', a, b⟩ := rs k hk
    rw [e, hi] at a
    exact (Option.some.inj a) ▸ b
  · obtain ⟨L', a, b⟩ := rs k hk
    exact (List.getElem?_eq_some_iff.mp a).1
  · obtain ⟨Ly, a, b⟩ := rs y hy
    obtain ⟨⟨j, Lj, c1, c2, c3⟩, c4⟩ := h.top (r y) Ly a y b x hx rc
    have e := uniq x j Lj hx c2 c3
    refine ⟨by omega, fun he => c4 ?_⟩
    rw [← he, e, c2] at a
    exact (Option.some.inj a) ▸ c3
end C
namespace C
open PySem PySem.Spec PyProof.Rows L2 M N B

end C
namespace C
open PySem PySem.Spec PyProof.Rows L2 M N B

def SameCh (b c : Buy) : Prop := (∀ x, x ∈ b.1 ↔ x ∈ c.1) ∧ ∀ x, x ∈ b.2 ↔ x ∈ c.2
theorem RankOk.same {r : Int → Nat} {b c : Buy} (h : RankOk r b) (s : SameCh b c) : RankOk r c := fun x hx => by
  rw [← s.2 x, h x ((s.1 x).mpr hx)]
  exact ⟨fun z y hy => z y ((s.1 y).mpr hy), fun z y hy => z y ((s.1 y).mp hy)⟩
theorem HasLv.of {lg lg' : List Buy} (h : HasLv lg) (hs : ∀ c ∈ lg', ∃ b ∈ lg, SameCh b c) : HasLv lg' := by
  obtain ⟨r, hr⟩ := h
  exact ⟨r, fun c hc => by obtain ⟨b, hb, s⟩ := hs c hc; exact (hr b hb).same s⟩
theorem LogOk.sub {lg lg' : List Buy} (h : LogOk lg) (hs : ∀ c ∈ lg', GoodCh c ∧ ∀ x ∈ c.1, ∃ b ∈ lg, x ∈ b.1) : LogOk lg' := by
  obtain ⟨th, h1, h2⟩ := h.few
  exact ⟨fun c hc => (hs c hc).1, th, h1, fun c hc x hx => by obtain ⟨b, hb, hx'⟩ := (hs c hc).2 x hx; exact h2 b hb x hx'⟩
end C
namespace C
open PySem PySem.Spec PyProof.Rows L2 M N B

theorem notIn_l {x : Int} {xs : List Int} : op2 notInT (.int x) (.list (enI xs)) = some (.bool (!decide (x ∈ xs))) := by
  have h1 : (enI xs).all flatD = true := by simp [enI, flatD]
  have h2 : (enI xs).any (fun z => PyData.eqv z (.int x)) = decide (x ∈ xs) := by
    rw [Bool.eq_iff_iff]
    simp only [enI, List.any_map, List.any_eq_true, decide_eq_true_eq]
    constructor
    · rintro ⟨y, hy, e⟩
      have : y = x := by simpa [PyData.eqv] using e
      exact this ▸ hy
    · exact fun h => ⟨x, h, by simp [PyData.eqv]⟩
  have hf : flatD (.int x) = true := rfl
  simp only [op2, notInT, ev_pure, Option.bind_some, ev_anyl, hf, h1, and_self, if_true, h2]
/-- a filter of ints -/
theorem lc_ints {h : D → Option (Option D)} (p : Int → Bool) (xs : List Int) (hl : xs.length ≤ 1000) (hx : ∀ x ∈ xs, h (.int x) = some (if p x then some (.int x) else none)) : xlc h (some (enI xs)) = some (.list (enI (xs.filter p))) := by
  unfold enI
  rw [xlc_of PyData.int p PyData.int xs (by unfold LIM; omega) hx]
end C
namespace C
open PySem PySem.Spec PyProof.Rows L2 M N B

end C
namespace C
open PySem PySem.Spec PyProof.Rows L2 M N B

end C
namespace C
open PySem PySem.Spec PyProof.Rows L2 M N B

section
variable {n : Nat} {c : CF}
end
end C
namespace C
open PySem PySem.Spec PyProof.Rows L2 M N B
theorem zw : ∀ (as ms : List Int), List.zipWith (· + ·) as ms = (List.zip as ms).map fun p => p.1 + p.2
  | [], _ => by simp
  | _ :: _, [] => by simp
  | a :: as, m :: ms => by simp [zw as ms]
theorem dot_addw : ∀ (ps as ms : List Int), ps.length = as.length → as.length ≤ ms.length → dot ps (List.zipWith (· + ·) as ms) = dot ps as + dot ps ms
  | [], [], _, _, _ => by simp [dot]
  | p :: ps, a :: as, m :: ms, h1, h2 => by
    have := dot_addw ps as ms (by simpa using h1) (by simpa using h2)
    simp only [List.zipWith_cons_cons, dot, this]
    grind
/-- the same amounts put to -/
def putB (ms : List Int) (b : Buy) : Buy := (b.1, List.zipWith (· + ·) b.2 ms)
theorem cM_put {n : Nat} {bk : List Buy} (v : ValidBook n bk) {ms : List Int} (hm : n ≤ ms.length) {i j : Nat} (hi : i < bk.length) (hj : j < bk.length) : cM (bk.map (putB ms)) i j = cM bk i j + dot bk[i].1 ms := by
  have gi := v.all _ (List.getElem_mem hi)
  have gj := v.all _ (List.getElem_mem hj)
  rw [cM_map _ hi hj, cM_eq hi hj]
  exact dot_addw bk[i].1 bk[j].2 ms (by rw [gi.lp, gj.la]) (by rw [gj.la]; exact hm)
theorem hasW_put {n : Nat} {bk : List Buy} (v : ValidBook n bk) {ms : List Int} (hm : n ≤ ms.length) : HasW .even (bk.map (putB ms)).length (cM (bk.map (putB ms))) ↔ HasW .even bk.length (cM bk) := by
  rw [List.length_map]
  have e : ∀ i j, i < bk.length → j < bk.length → cM (bk.map (putB ms)) i j - cM (bk.map (putB ms)) i i = cM bk i j - cM bk i i := fun i j hi hj => by
    rw [cM_put v hm hi hj, cM_put v hm hi hi]; omega
  constructor
  · rintro ⟨w, l, h, k⟩
    exact ⟨w, l, fun i hi => ⟨(h i hi).1, fun j hj => by rw [← e i j hi hj]; exact (h i hi).2 j hj⟩, k⟩
  · rintro ⟨w, l, h, k⟩
    exact ⟨w, l, fun i hi => ⟨(h i hi).1, fun j hj => by rw [e i j hi hj]; exact (h i hi).2 j hj⟩, k⟩
/-- scaled: what one buying takes, so many times as great -/
theorem HasW.cols {n : Nat} {c c' : CF} (h : HasW .scaled n c) (s : Nat → Rat) (hs : ∀ i, i < n → 0 < s i) (hc : ∀ i j, i < n → j < n → (c' i j : Rat) = s j * (c i j : Rat)) : HasW .scaled n c' := by
  obtain ⟨w, l, e, ko⟩ := h
  have ko : ∀ i, i < n → 0 < w i ∧ w i = l i * (c i i : Rat) := ko
  refine ⟨fun i => s i * w i, l, fun i hi => ⟨(e i hi).1, fun j hj => ?_⟩, fun i hi => ⟨Rat.mul_pos (hs i hi) (ko i hi).1, ?_⟩⟩
  · have h1 := (e i hi).2 j hj
    rw [Rat.intCast_sub] at h1 ⊢
    rw [hc i j hi hj, hc i i hi hi]
    have h2 := (ko i hi).2
    have h3 := Rat.mul_le_mul_of_nonneg_left h1 (Rat.le_of_lt (hs j hj))
    have e1 : w i + l i * ((c i j : Rat) - (c i i : Rat)) = l i * (c i j : Rat) := by grind
    have e2 : s i * w i + l i * (s j * (c i j : Rat) - s i * (c i i : Rat)) = s j * (l i * (c i j : Rat)) := by rw [h2]; grind
    rw [e1] at h3
    show s j * w j ≤ s i * w i + l i * (s j * (c i j : Rat) - s i * (c i i : Rat))
    rw [e2]; exact h3
  · show s i * w i = l i * (c' i i : Rat)
    rw [hc i i hi hi, (ko i hi).2]; grind
theorem hasW_oneA {n : Nat} {bk : List Buy} {by' : Int} (hb : 1 ≤ by') {at' : Nat} (ha : at' < bk.length) : HasW .scaled (bk.set at' (timesB by' true bk[at'])).length (cM (bk.set at' (timesB by' true bk[at']))) ↔ HasW .scaled bk.length (cM bk) := by
  have hp := qpos hb
  rw [List.length_set]
  have e : ∀ i j, i < bk.length → j < bk.length → cM (bk.set at' (timesB by' true bk[at'])) i j = (if j = at' then by' else 1) * cM bk i j := fun i j hi hj => by
    rw [cM_eq (by simpa using hi) (by simpa using hj), cM_eq hi hj]
    have e2 : ((bk.set at' (timesB by' true bk[at']))[i]'(by simpa using hi)).1 = bk[i].1 := by
      rw [List.getElem_set]
      split
      · rename_i z; subst z; rfl
      · rfl
    rw [e2, List.getElem_set]
    split
    · rename_i z; subst z
      simp only [timesB, if_true]; exact dot_mul_r by' _ _
    · rename_i z
      rw [if_neg (fun q => z q.symm), Int.one_mul]
  have key : 1 / (by' : Rat) * (by' : Rat) = 1 := Rat.div_mul_cancel (by grind)
  constructor
  · intro h
    refine h.cols (fun i => if i = at' then 1 / (by' : Rat) else 1) (fun i hi => ?_) fun i j hi hj => ?_
    · split
      · rw [Rat.lt_div_iff hp, Rat.zero_mul]; decide
      · decide
    · rw [e i j hi hj]
      split
      · rw [Rat.intCast_mul]; grind
      · rw [Int.one_mul]; grind
  · intro h
    refine h.cols (fun i => if i = at' then (by' : Rat) else 1) (fun i hi => ?_) fun i j hi hj => ?_
    · split
      · exact hp
      · decide
    · rw [e i j hi hj]
      split
      · rw [Rat.intCast_mul]
      · rw [Int.one_mul]; grind
/-- one of a book's buyings once more, its amounts so many times as great -/
theorem hasW_more {bk : List Buy} {by' : Int} (hb : 1 ≤ by') {at' : Nat} (ha : at' < bk.length) : HasW .scaled (bk ++ [timesB by' true bk[at']]).length (cM (bk ++ [timesB by' true bk[at']])) ↔ HasW .scaled bk.length (cM bk) := by
  constructor
  · intro h
    exact h.of_sub fun b hb => List.mem_append_left _ hb
  · intro h
    have h2 : HasW .scaled (bk ++ [bk[at']]).length (cM (bk ++ [bk[at']])) := (hasW_same fun b => by
      simp only [List.mem_append, List.mem_singleton]
      exact ⟨fun z => by rcases z with z | z; exact z; rw [z]; exact List.getElem_mem ha, fun z => .inl z⟩).mpr h
    have hl : bk.length < (bk ++ [bk[at']]).length := by simp
    have h3 := (hasW_oneA (n := 0) hb hl).mpr h2
    have e : (bk ++ [bk[at']]).set bk.length (timesB by' true (bk ++ [bk[at']])[bk.length]) = bk ++ [timesB by' true bk[at']] := by
      rw [List.set_append_right _ _ (Nat.le_refl _)]; simp
    rw [e] at h3
    exact h3
theorem good_isBuying {n : Nat} {b : Buy} (n1 : 1 ≤ n) (n6 : n ≤ 6) (g : Good n b) : isBuying b = true := by
  unfold isBuying
  rw [g.lp, g.la]
  have a1 : b.1.all okPrice = true := List.all_eq_true.mpr fun p hp => decide_eq_true (g.pr p hp)
  have a2 : b.2.all okAmount = true := List.all_eq_true.mpr fun p hp => decide_eq_true (g.am p hp)
  have a3 : b.2.any (fun a => decide (0 < a)) = true := List.any_eq_true.mpr (by obtain ⟨a, h1, h2⟩ := g.ps; exact ⟨a, h1, decide_eq_true h2⟩)
  rw [a1, a2, a3]
  simp [n1, n6]
theorem p_need_buying {n : Nat} {bk : List Buy} (v : ValidBook n bk) {b : Buy} (g : Good n b) : P.need_buying (enBk bk) (enB b) = some .none := by
  have n1 := v.n1
  have n6 := v.n6
  have l1 := v.ne
  have hb0 : op2 idxT (enBk bk) (.int 0) = some (enB bk[0]) := bk_ix (k := 0) v.ne
  have e : P.is_buying (enB b) = some (.bool true) := by
    have := qc_of (is_buying b (by rw [g.lp]; omega) (by rw [g.la]; omega))
    rw [good_isBuying n1 n6 g] at this
    exact this
  unfold P.need_buying
  simp only [c_ap1, e, c_xbool, c_xnot, Bool.not_true, c_xor, c_xif_f, c_xop, B_0, hb0, c_xf1, ev_lent, Option.bind_some, ev_pure, enI_length, g.lp, (v.all _ (List.getElem_mem v.ne)).lp, c_nei, decide_true]
theorem p_may_come {n : Nat} {bk : List Buy} (k : Kd) (v : ValidBook n bk) (h12 : bk.length ≤ 12) {b : Buy} (g : Good n b) : ∃ t, P.may_come (enBk bk) (.str k.str) (enB b) = some (.bool t) ∧ (t = true ↔ HasW k (bk ++ [b]).length (cM (bk ++ [b]))) := by
  obtain ⟨t, h1, h2⟩ := has_wish k (v.app g) (by simp; omega)
  refine ⟨t, ?_, h2⟩
  have ad : op2 addT (enBk bk) (enBk [b]) = some (enBk (bk ++ [b])) := add_bk (by simp [LIM]; omega)
  unfold P.may_come
  simp only [c_ap2, p_need_buying v g, Option.bind_some, c_xlst, c_xseq1, c_xseq0, Option.map_some, one_bk, c_xop, ad, h1]
/-- the greatest amount of a book -/
theorem great_am {n : Nat} {bk : List Buy} (v : ValidBook n bk) (h13 : bk.length ≤ 13) : ∃ g : Int, (xf1 maxT (xmap (fun d => un2 d fun prices amounts => xf1 maxT (some amounts)) (some (bk.map enB)))) = some (.int g) ∧ 0 ≤ g ∧ g ≤ 1000000 ∧ ∀ b ∈ bk, ∀ a ∈ b.2, a ≤ g := by
  have n1 := v.n1
  have n6 := v.n6
  have hm : ∀ b ∈ bk, ∃ m, maxI b.2 = some m := fun b hb => maxI_some (by
    intro z
    have := (v.all b hb).la
    rw [z] at this
    simp at this
    omega)
  let mx : Buy → Int := fun b => (maxI b.2).getD 0
  have hmx : ∀ b ∈ bk, maxI b.2 = some (mx b) := fun b hb => by
    obtain ⟨m, e⟩ := hm b hb
    show maxI b.2 = some ((maxI b.2).getD 0)
    rw [e]; rfl
  have e1 : xmap (fun d => un2 d fun prices amounts => xf1 maxT (some amounts)) (some (bk.map enB)) = some (.list (enI (bk.map mx))) := by
    rw [xmap_of enB (fun b => .int (mx b)) bk (by unfold LIM; omega) (fun b hb => by
      simp only [un_B, c_xf1, maxT_t (hmx b hb), Option.bind_some, ev_pure])]
    unfold enI; rw [List.map_map]; rfl
  have ne : bk.map mx ≠ [] := by
    intro z
    have := congrArg List.length z
    simp at this
    have := v.ne
    simp [*] at this
  obtain ⟨g, hg⟩ := maxI_some ne
  have gs := maxI_spec hg
  have all : ∀ b ∈ bk, ∀ x ∈ b.2, x ≤ g := fun b hb x hx => by
    have h1 := (maxI_spec (hmx b hb)).2 x hx
    have h2 := gs.2 (mx b) (List.mem_map.mpr ⟨b, hb, rfl⟩)
    omega
  have mem : ∃ b ∈ bk, g ∈ b.2 := by
    obtain ⟨b, hb, e⟩ := List.mem_map.mp gs.1
    have h1 := (maxI_spec (hmx b hb)).1
    rw [e] at h1
    exact ⟨b, hb, h1⟩
  obtain ⟨b, hb, hgb⟩ := mem
  have ga := (v.all b hb).am g hgb
  exact ⟨g, by rw [e1, c_xf1, maxT_ints hg]; rfl, ga.1, ga.2, all⟩
theorem zipM_ints (as ms : List Int) : izipM (some (PyData.tuple (enI as))) (some (PyData.list (enI ms))) = some ((List.zip as ms).map fun p => PyData.tuple [.int p.1, .int p.2]) := by
  have : zipD (enI as) (enI ms) = (List.zip as ms).map fun p => PyData.tuple [.int p.1, .int p.2] := zipD_map (fun i : Int => PyData.int i) (fun i : Int => PyData.int i) as ms
  rw [← this]; rfl
theorem p_putB {ms : List Int} {b : Buy} (hb : b.2.length ≤ 1000) {acc : List D} (hl : acc.length ≤ 1000) : (un2 (enB b) fun x y => P.k32_law_L1 (.list (enI ms)) acc x y) = some (acc ++ [enB (putB ms b)]) := by
  have e : xmap (fun d => un2 d fun one other => xop addT (some one) (some other)) (some ((List.zip b.2 ms).map fun p => PyData.tuple [.int p.1, .int p.2])) = some (.list (enI (List.zipWith (· + ·) b.2 ms))) := by
    rw [xmap_of (fun p : Int × Int => PyData.tuple [.int p.1, .int p.2]) (fun p => .int (p.1 + p.2)) (List.zip b.2 ms) (by simp [LIM]; omega) fun p _ => by rw [c_un2, c_xop, c_add]]
    congr 2
    unfold enI
    rw [zw, List.map_map]; rfl
  rw [un_B]
  unfold P.k32_law_L1
  rw [zipM_ints, e, Option.bind_some, c_xf1, tup_enI, Option.bind_some, ev_pure, c_xtup, c_xseq1, c_xseq1, c_xseq0, Option.map_some, Option.map_some, Option.map_some, mk_B', Option.bind_some, apd_of hl, Option.bind_some]
  rfl
set_option maxHeartbeats 2000000 in
theorem k32_true (ns : List Int) : Q.k32_law [.sc ns] = some (.p (.bool true)) := by
  refine run_law (R.k32_law ns) ?_
  obtain ⟨n, bk, hbk, v, hlen⟩ := p_a_book ns 0 11
  have h11 : bk.length ≤ 11 := by omega
  have l1 := v.ne
  have n1 := v.n1
  have n6 := v.n6
  obtain ⟨c2, hc2⟩ := p_cell ns 2 (by decide)
  obtain ⟨picks, hpk, hpl, hpx⟩ := p_draws c2 9 1000
  have hpl : picks.length = 9 := hpl
  obtain ⟨g, hg, g0, g1, gall⟩ := great_am v (by omega)
  obtain ⟨q6, m6, a6⟩ := at_ex (xs := picks) (i := 6) (by decide) (by omega)
  obtain ⟨q7, m7, a7⟩ := at_ex (xs := picks) (i := 7) (by decide) (by omega)
  have p6 : op2 powT (.int 10) (.int 6) = some (.int 1000000) := by rw [c_pow, if_pos (by decide)]; rfl
  have b6 := modB (x := q6) (k := bk.length) (by omega)
  obtain ⟨at', hat⟩ : ∃ a : Nat, q6.fmod (bk.length : Int) = (a : Int) := ⟨(q6.fmod bk.length).toNat, by omega⟩
  have hat2 : at' < bk.length := by omega
  have ga := v.all _ (List.getElem_mem hat2)
  -- more
  obtain ⟨t, ht⟩ : ∃ t : Int, (if decide (g + 50 ≤ 1000000) then 1 else 0) = t := ⟨_, rfl⟩
  have t01 : (t = 1 ∧ g + 50 ≤ 1000000) ∨ t = 0 := by
    rw [← ht]
    by_cases z : g + 50 ≤ 1000000
    · left; simp [z]
    · right; simp [z]
  obtain ⟨ms, hms⟩ : ∃ ms : List Int, ms = (picks.take 6).map fun p => p.fmod 50 * t := ⟨_, rfl⟩
  have lms : ms.length = 6 := by rw [hms]; simp; omega
  have rms : ∀ x ∈ ms, 0 ≤ x ∧ x + g ≤ 1000000 := fun x hx => by
    rw [hms] at hx
    obtain ⟨p, _, rfl⟩ := List.mem_map.mp hx
    have := modB (x := p) (k := 50) (by decide)
    rcases t01 with ⟨rfl, z⟩ | rfl
    · omega
    · omega
  have em : xmap (fun pick => xop mulT (xop modT (some pick) (some (.int 50))) (xf1 intT (xop leT (xop addT (some (.int g)) (some (.int 50))) (xop powT (some (.int 10)) (some (.int 6)))))) (iseq (xslice (some (.list (enI picks))) (some none) (xint (some (.int 6))))) = some (.list (enI ms)) := by
    have s : xslice (some (.list (enI picks))) (some none) (xint (some (.int 6))) = some (.list (enI (picks.take 6))) := by
      show (sliceT (.p (.list (enI picks))) none (some ((6 : Nat) : Int))).bind T.pure? = _
      simp only [sliceT, ev_seql, Option.bind_some, T.pure?]
      rw [cut_upto]; unfold enI; rw [List.map_take]
    rw [s, c_iseq1, map_enI (fun p => p.fmod 50 * t) _ (by simp [LIM]; omega) fun p _ => by
      have mo : mulOk (p.fmod 50) t = true := mulI_small (by have := modB (x := p) (k := 50) (by decide); omega)
      rw [c_xop, c_mod, if_neg (by decide), c_xop, c_add, c_xop, p6, c_xop, c_le, int_bool, ht, c_xop, c_mul, mo, if_pos rfl], hms]
  -- moved
  have hm : n ≤ ms.length := by omega
  have pv : ValidBook n (bk.map (putB ms)) := ⟨v.n1, v.n6, by simpa using v.ne, fun b hb => by
    obtain ⟨x, hx, rfl⟩ := List.mem_map.mp hb
    have gx := v.all x hx
    have nth : ∀ i, i < n → (List.zipWith (· + ·) x.2 ms)[i]? = some (x.2.getD i 0 + ms.getD i 0) := fun i hi => by
      have h1 : i < x.2.length := by rw [gx.la]; exact hi
      have h2 : i < ms.length := by omega
      simp [List.getElem?_zipWith, List.getD_eq_getElem?_getD, h1, h2]
    refine ⟨gx.lp, by simp [putB, gx.la]; omega, gx.pr, fun a ha => ?_, ?_⟩
    · obtain ⟨p, hp, rfl⟩ : ∃ p ∈ List.zip x.2 ms, p.1 + p.2 = a := by
        have : a ∈ (List.zip x.2 ms).map fun p => p.1 + p.2 := by
          rw [← zw]; exact ha
        obtain ⟨p, h1, h2⟩ := List.mem_map.mp this
        exact ⟨p, h1, h2⟩
      obtain ⟨p1, p2⟩ := p
      have h1 := List.of_mem_zip hp
      have r1 := rms _ h1.2
      have r2 := gall x hx _ h1.1
      have r3 := gx.am _ h1.1
      simp only
      omega
    · obtain ⟨a, ha, h0⟩ := gx.ps
      obtain ⟨i, hi, e⟩ := List.mem_iff_getElem.mp ha
      have hn : i < n := by rw [gx.la] at hi; exact hi
      have := nth i hn
      refine ⟨_, List.mem_of_getElem? this, ?_⟩
      have e2 : x.2.getD i 0 = a := by rw [List.getD_eq_getElem?_getD, List.getElem?_eq_getElem hi, Option.getD_some, e]
      have h2 : i < ms.length := by omega
      have e3 : ms.getD i 0 ∈ ms := by rw [List.getD_eq_getElem?_getD, List.getElem?_eq_getElem h2]; exact List.getElem_mem h2
      have := rms _ e3
      omega⟩
  have loop : fold (fun s d => un2 d fun x y => P.k32_law_L1 (.list (enI ms)) s x y) (bk.map enB) [] = some ((bk.map (putB ms)).map enB) := by
    have := fold_app (step := fun s d => un2 d fun x y => P.k32_law_L1 (.list (enI ms)) s x y) enB (fun b => enB (putB ms b)) bk [] (fun b hb acc _ hl => p_putB (by rw [(v.all b hb).la]; omega) hl) (by simp; omega)
    rw [this, List.nil_append, List.map_map]; rfl
  obtain ⟨e1, he1, he1'⟩ := has_wish .even pv (by simp; omega)
  obtain ⟨e2, he2, he2'⟩ := has_wish .even v (by omega)
  rw [hasW_put v hm] at he1'
  have e12 : e1 = e2 := by rw [Bool.eq_iff_iff, he1', he2']
  subst e12
  have he1 : P.has_wish (.list ((bk.map (putB ms)).map enB)) (.str "even") = some (.bool e1) := he1
  have he2 : P.has_wish (enBk bk) (.str "even") = some (.bool e1) := he2
  -- scaled
  obtain ⟨mx, hmx⟩ := maxI_some (xs := bk[at'].2) (by intro z; have := ga.la; rw [z] at this; simp at this; omega)
  obtain ⟨mxm, mxs⟩ := maxI_spec hmx
  have mx1 : 1 ≤ mx := by
    obtain ⟨a, ha, h0⟩ := ga.ps
    have := mxs a ha
    omega
  have mx6 := (ga.am mx mxm).2
  have hfd : (1000000 : Int).fdiv mx = 1000000 / mx := fdiv_pos (by omega)
  have hmm : mx * (1000000 / mx) ≤ 1000000 := Int.mul_ediv_self_le (by omega)
  have hdp : 1 ≤ 1000000 / mx := by rw [Int.le_ediv_iff_mul_le (by omega)]; omega
  obtain ⟨u, hu⟩ : ∃ u, max 1 (min 60 ((1000000 : Int).fdiv mx)) = u := ⟨_, rfl⟩
  have hu1 : 1 ≤ u ∧ u ≤ 60 ∧ u ≤ 1000000 / mx := by rw [← hu, hfd]; omega
  have b7 := modB (x := q7) (k := u) (by omega)
  obtain ⟨by', hby⟩ : ∃ y, 1 + q7.fmod u = y := ⟨_, rfl⟩
  have hby1 : 1 ≤ by' ∧ by' ≤ u := by omega
  have gone : Good n (timesB by' true bk[at']) := by
    refine ⟨ga.lp, by simp [timesB, ga.la], ga.pr, fun a ha => ?_, ?_⟩
    · obtain ⟨x, hx, rfl⟩ := List.mem_map.mp (by simpa only [timesB, if_true] using ha)
      have h1 := ga.am x hx
      have h2 := mxs x hx
      have h3 : x * by' ≤ mx * (1000000 / mx) := Int.mul_le_mul h2 (by omega) (by omega) (by omega)
      exact ⟨Int.mul_nonneg h1.1 (by omega), by omega⟩
    · obtain ⟨a, ha, h0⟩ := ga.ps
      exact ⟨a * by', by simp only [timesB, if_true]; exact List.mem_map.mpr ⟨a, ha, rfl⟩, Int.mul_pos h0 (by omega)⟩
  have dv : divOk mx = true := divOk_small (by omega) (by omega)
  have eby : xop addT (some (.int 1)) (xop modT (some (.int q7)) (xf2 maxT (some (.int 1)) (xf2 minT (some (.int 60)) (xop fdivT (xop powT (some (.int 10)) (some (.int 6))) (xf1 maxT (some (.tuple (enI bk[at'].2)))))))) = some (.int by') := by
    rw [c_xop, p6, c_xf1, maxT_t hmx]
    show xop addT (some (.int 1)) (xop modT (some (.int q7)) (xf2 maxT (some (.int 1)) (xf2 minT (some (.int 60)) (xop fdivT (some (.int 1000000)) (some (.int mx)))))) = _
    rw [c_xop, c_fdiv, dv, if_pos rfl, c_xf2, ev_min2]
    show xop addT (some (.int 1)) (xop modT (some (.int q7)) (xf2 maxT (some (.int 1)) (some (.int (min 60 ((1000000 : Int).fdiv mx)))))) = _
    rw [c_xf2, ev_max2]
    show xop addT (some (.int 1)) (xop modT (some (.int q7)) (some (.int (max 1 (min 60 ((1000000 : Int).fdiv mx)))))) = _
    rw [hu, c_xop, c_mod, if_neg (by omega), c_xop, c_add, hby]
  have eone : xtup [some (.tuple (enI bk[at'].1)), xf1 tupleT (xmap (fun amount => xop mulT (some amount) (some (.int by'))) (iseq (some (.tuple (enI bk[at'].2)))))] = some (enB (timesB by' true bk[at'])) := by
    rw [c_iseq2, map_enI (fun a => a * by') _ (by rw [ga.la]; simp [LIM]; omega) fun a ha => by
      have mo : mulOk a by' = true := mulI_small (by have := ga.am a ha; omega)
      rw [c_xop, c_mul, mo, if_pos rfl], c_xf1, tup_enI, Option.bind_some, ev_pure, c_xtup, c_xseq1, c_xseq1, c_xseq0]
    rfl
  obtain ⟨s, hs, hs'⟩ := has_wish .scaled v (by omega)
  have vset : ValidBook n (bk.set at' (timesB by' true bk[at'])) := v.set gone at'
  obtain ⟨s2, hs2, hs2'⟩ := has_wish .scaled vset (by simp; omega)
  rw [hasW_oneA (n := n) hby1.1 hat2] at hs2'
  have s12 : s2 = s := by rw [Bool.eq_iff_iff, hs2', hs']
  subst s12
  obtain ⟨s3, hs3, hs3'⟩ := p_may_come .scaled v (by omega) gone
  rw [hasW_more hby1.1 hat2] at hs3'
  have s13 : s3 = s2 := by rw [Bool.eq_iff_iff, hs3', hs']
  subst s13
  obtain ⟨s4, hs4, hs4'⟩ := p_may_come .even v (by omega) ga
  have tw : HasW .even (bk ++ [bk[at']]).length (cM (bk ++ [bk[at']])) ↔ HasW .even bk.length (cM bk) := hasW_same fun b => by
    simp only [List.mem_append, List.mem_singleton]
    exact ⟨fun z => by rcases z with z | z; exact z; rw [z]; exact List.getElem_mem hat2, fun z => .inl z⟩
  rw [tw] at hs4'
  have s14 : s4 = e1 := by rw [Bool.eq_iff_iff, hs4', he2']
  subst s14
  have hs : P.has_wish (enBk bk) (.str "scaled") = some (.bool s3) := hs
  have hs2 : P.has_wish (enBk (bk.set at' (timesB by' true bk[at']))) (.str "scaled") = some (.bool s3) := hs2
  have hs3 : P.may_come (enBk bk) (.str "scaled") (enB (timesB by' true bk[at'])) = some (.bool s3) := hs3
  have hs4 : P.may_come (enBk bk) (.str "even") (enB bk[at']) = some (.bool s4) := hs4
  have hbi := bk_ix hat2
  have ct : (sliceT (.p (enBk bk)) none (some (at' : Int))).bind T.pure? = some (enBk (bk.take at')) := slice_bk_to
  have cd1 : (sliceT (.p (enBk bk)) (some ((at' : Int) + 1)) none).bind T.pure? = some (enBk (bk.drop (at' + 1))) := by
    have := slice_bk_from (bk := bk) (k := at' + 1) (by omega)
    simpa using this
  have ad1 : op2 addT (enBk (bk.take at')) (enBk [timesB by' true bk[at']]) = some (enBk (bk.take at' ++ [timesB by' true bk[at']])) := add_bk (by simp [LIM]; omega)
  have ad2 : op2 addT (enBk (bk.take at' ++ [timesB by' true bk[at']])) (enBk (bk.drop (at' + 1))) = some (enBk (bk.set at' (timesB by' true bk[at']))) := by
    rw [add_bk (by simp [LIM]; omega), List.set_eq_take_append_cons_drop, if_pos hat2, List.append_assoc]; rfl
  have dr : (xand (xbool (xop gtT (xf1 lenT (some (enBk bk))) (some (.int 1)))) (xbool (xop M.neT (xop idxT (ap1 P.dearest (some (.list ((bk.map (putB ms)).map enB)))) (some (.int 0))) (xop idxT (ap1 P.dearest (some (enBk bk))) (some (.int 0)))))) = some false := by
    rw [c_xf1, len_Bk, c_xop, c_gt, c_xbool, c_xand]
    by_cases one : 1 < bk.length
    · obtain ⟨x, p, w, ex, d⟩ := dearest v (by omega) (by omega)
      obtain ⟨x2, p2, w2, ex2, d2⟩ := dearest pv (by simp; omega) (by simp; omega)
      rw [List.length_map] at d2 ex2
      have y2 : x2 = x := (dear_eq d d2 fun q hq => gap_congr hq fun i j hi hj => by rw [cM_put v hm hi hj, cM_put v hm hi hi]; omega).symm
      have ex2 : P.dearest (.list ((bk.map (putB ms)).map enB)) = some (dearD x2 p2 bk.length w2) := ex2
      have i00 : ∀ {y : Rat} {q : List Nat} {k : Nat} {u : WF}, op2 idxT (dearD y q k u) (.int 0) = some (enQ y) := rfl
      have g' : (bk.length : Int) > 1 := by omega
      rw [decide_eq_true g', c_xif_t, c_ap1, ex2, c_xop, i00, c_ap1, ex, c_xop, i00, c_xop, ne_Q, y2]
      simp
    · have g' : ¬ (bk.length : Int) > 1 := by omega
      rw [decide_eq_false g', c_xif_f]
  unfold P.k32_law
  rw [c_ap3, hbk, Option.bind_some, c_ap2, hc2, c_ap3, hpk, Option.bind_some, iseq_bk, hg, Option.bind_some, em, Option.bind_some, c_xseq0, Option.bind_some, Option.bind_some, loop, Option.bind_some, c_ap2, he1, c_ap2, he2, c_xop, c_neb, c_xbool]
  rw [show (!(s4 == s4)) = false by simp, c_xif_f, dr, c_xif_f, c_xop, c_ixl, a6, c_xf1, len_Bk]
  rw [show xop modT (some (PyData.int q6)) (some (PyData.int (bk.length : Int))) = some (.int (at' : Int)) from by rw [c_xop, c_mod, if_neg (by omega), hat], Option.bind_some, c_xop, hbi, Option.bind_some, un_B, c_xop, c_ixl, a7, eby, Option.bind_some, eone, Option.bind_some, c_ap2, hs, Option.bind_some]
  simp only [c_xint, c_xslice, ct, c_xop, c_add, cd1, c_xlst, c_xseq1, c_xseq0, Option.map_some, one_bk, ad1, ad2, c_ap2, hs2, c_neb, c_xbool, beq_self_eq_true, Bool.not_true, c_xif_f, c_ap3, hs3, hs4, c_eqb]
end C
namespace W
open PySem PySem.Spec PyProof.Rows L2 M
def topS (i : Nat) : Stmt := PySem.Challenge.pw_onewish_k32_whole_even_and_scaled_turned.main.body.getD i (.Pass ⟨0, 0, 0, 0⟩)
abbrev s_is_buying : Stmt := topS 6
abbrev s_cost_at : Stmt := topS 7
abbrev s_costs_of : Stmt := topS 8
abbrev s_divisor : Stmt := topS 10
abbrev s_fraction : Stmt := topS 11
abbrev s_plus : Stmt := topS 12
abbrev s_minus : Stmt := topS 13
abbrev s_times : Stmt := topS 14
abbrev s_over : Stmt := topS 15
abbrev s_is_less : Stmt := topS 16
abbrev s_lesser : Stmt := topS 17
abbrev s_greater : Stmt := topS 18
abbrev s_way_between : Stmt := topS 20
abbrev s_open_ways : Stmt := topS 21
abbrev s_barring_round : Stmt := topS 22
abbrev s_top_class : Stmt := topS 23
abbrev s_any_wish : Stmt := topS 24
abbrev s_told_any : Stmt := topS 25
abbrev s_step_worth : Stmt := topS 26
abbrev s_round_back : Stmt := topS 27
abbrev s_lowered : Stmt := topS 28
abbrev s_told_by : Stmt := topS 29
abbrev s_has_wish : Stmt := topS 30
abbrev s_walks : Stmt := topS 32
abbrev s_least_mean : Stmt := topS 33
abbrev s_lifted : Stmt := topS 34
abbrev s_dearest : Stmt := topS 35
abbrev s_need_buying : Stmt := topS 37
abbrev s_may_come : Stmt := topS 38
abbrev s__law_cell_at : Stmt := topS 40
abbrev s__law_draws : Stmt := topS 41
abbrev s__law_best_good : Stmt := topS 42
abbrev s__law_a_book : Stmt := topS 43
abbrev s_law : Stmt := topS 44
abbrev N_is_buying : List Str := ["thing", "prices", "amounts", "price", "amount"]
theorem sc_is_buying : FnScope N_is_buying ["thing"] (defScope s_is_buying) := ⟨rfl, rfl, rfl, by decide +kernel, rfl, by decide +kernel, by decide +kernel⟩
abbrev N_cost_at : List Str := ["prices", "amounts", "price", "amount"]
theorem sc_cost_at : FnScope N_cost_at ["prices", "amounts"] (defScope s_cost_at) := ⟨rfl, rfl, rfl, by decide +kernel, rfl, by decide +kernel, by decide +kernel⟩
abbrev N_costs_of : List Str := ["book", "told", "prices", "own", "other", "amounts"]
theorem sc_costs_of : FnScope N_costs_of ["book"] (defScope s_costs_of) := ⟨rfl, rfl, rfl, by decide +kernel, rfl, by decide +kernel, by decide +kernel⟩
abbrev N_divisor : List Str := ["one", "other"]
theorem sc_divisor : FnScope N_divisor ["one", "other"] (defScope s_divisor) := ⟨rfl, rfl, rfl, by decide +kernel, rfl, by decide +kernel, by decide +kernel⟩
abbrev N_fraction : List Str := ["top", "bottom", "many"]
theorem sc_fraction : FnScope N_fraction ["top", "bottom"] (defScope s_fraction) := ⟨rfl, rfl, rfl, by decide +kernel, rfl, by decide +kernel, by decide +kernel⟩
abbrev N_plus : List Str := ["one", "other"]
theorem sc_plus : FnScope N_plus ["one", "other"] (defScope s_plus) := ⟨rfl, rfl, rfl, by decide +kernel, rfl, by decide +kernel, by decide +kernel⟩
abbrev N_minus : List Str := ["one", "other"]
theorem sc_minus : FnScope N_minus ["one", "other"] (defScope s_minus) := ⟨rfl, rfl, rfl, by decide +kernel, rfl, by decide +kernel, by decide +kernel⟩
abbrev N_times : List Str := ["one", "number"]
theorem sc_times : FnScope N_times ["one", "number"] (defScope s_times) := ⟨rfl, rfl, rfl, by decide +kernel, rfl, by decide +kernel, by decide +kernel⟩
abbrev N_over : List Str := ["one", "number"]
theorem sc_over : FnScope N_over ["one", "number"] (defScope s_over) := ⟨rfl, rfl, rfl, by decide +kernel, rfl, by decide +kernel, by decide +kernel⟩
abbrev N_is_less : List Str := ["one", "other"]
theorem sc_is_less : FnScope N_is_less ["one", "other"] (defScope s_is_less) := ⟨rfl, rfl, rfl, by decide +kernel, rfl, by decide +kernel, by decide +kernel⟩
abbrev N_lesser : List Str := ["one", "other"]
theorem sc_lesser : FnScope N_lesser ["one", "other"] (defScope s_lesser) := ⟨rfl, rfl, rfl, by decide +kernel, rfl, by decide +kernel, by decide +kernel⟩
abbrev N_greater : List Str := ["one", "other"]
theorem sc_greater : FnScope N_greater ["one", "other"] (defScope s_greater) := ⟨rfl, rfl, rfl, by decide +kernel, rfl, by decide +kernel, by decide +kernel⟩
abbrev N_way_between : List Str := ["ways", "one", "other", "behind", "waiting", "here", "there", "told"]
theorem sc_way_between : FnScope N_way_between ["ways", "one", "other"] (defScope s_way_between) := ⟨rfl, rfl, rfl, by decide +kernel, rfl, by decide +kernel, by decide +kernel⟩
abbrev N_open_ways : List Str := ["costs", "many", "told", "k", "j"]
theorem sc_open_ways : FnScope N_open_ways ["costs"] (defScope s_open_ways) := ⟨rfl, rfl, rfl, by decide +kernel, rfl, by decide +kernel, by decide +kernel⟩
abbrev N_barring_round : List Str := ["costs", "ways", "k", "j", "way"]
theorem sc_barring_round : FnScope N_barring_round ["costs", "ways"] (defScope s_barring_round) := ⟨rfl, rfl, rfl, by decide +kernel, rfl, by decide +kernel, by decide +kernel⟩
abbrev N_top_class : List Str := ["ways", "left", "k", "above", "j"]
theorem sc_top_class : FnScope N_top_class ["ways", "left"] (defScope s_top_class) := ⟨rfl, rfl, rfl, by decide +kernel, rfl, by decide +kernel, by decide +kernel⟩
abbrev N_any_wish : List Str := ["costs", "ways", "worths", "weights", "left", "level", "worth", "weight", "j", "k", "there", "many"]
theorem sc_any_wish : FnScope N_any_wish ["costs", "ways"] (defScope s_any_wish) := ⟨rfl, rfl, rfl, by decide +kernel, rfl, by decide +kernel, by decide +kernel⟩
abbrev N_told_any : List Str := ["costs", "ways", "found"]
theorem sc_told_any : FnScope N_told_any ["costs"] (defScope s_told_any) := ⟨rfl, rfl, rfl, by decide +kernel, rfl, by decide +kernel, by decide +kernel⟩
abbrev N_step_worth : List Str := ["kind", "costs", "worths", "one", "other"]
theorem sc_step_worth : FnScope N_step_worth ["kind", "costs", "worths", "one", "other"] (defScope s_step_worth) := ⟨rfl, rfl, rfl, by decide +kernel, rfl, by decide +kernel, by decide +kernel⟩
abbrev N_round_back : List Str := ["behind", "last", "many", "here", "k", "told"]
theorem sc_round_back : FnScope N_round_back ["behind", "last", "many"] (defScope s_round_back) := ⟨rfl, rfl, rfl, by decide +kernel, rfl, by decide +kernel, by decide +kernel⟩
abbrev N_lowered : List Str := ["kind", "costs", "worths", "behind", "last", "one", "other", "there"]
theorem sc_lowered : FnScope N_lowered ["kind", "costs", "worths", "behind"] (defScope s_lowered) := ⟨rfl, rfl, rfl, by decide +kernel, rfl, by decide +kernel, by decide +kernel⟩
abbrev N_told_by : List Str := ["book", "kind", "costs", "many", "worths", "behind", "turn", "last", "weights", "k"]
theorem sc_told_by : FnScope N_told_by ["book", "kind"] (defScope s_told_by) := ⟨rfl, rfl, rfl, by decide +kernel, rfl, by decide +kernel, by decide +kernel⟩
abbrev N_has_wish : List Str := ["book", "kind"]
theorem sc_has_wish : FnScope N_has_wish ["book", "kind"] (defScope s_has_wish) := ⟨rfl, rfl, rfl, by decide +kernel, rfl, by decide +kernel, by decide +kernel⟩
abbrev N_walks : List Str := ["costs", "many", "told", "turn", "row", "there", "some", "one"]
theorem sc_walks : FnScope N_walks ["costs"] (defScope s_walks) := ⟨rfl, rfl, rfl, by decide +kernel, rfl, by decide +kernel, by decide +kernel⟩
abbrev N_least_mean : List Str := ["costs", "many", "told", "best", "there", "worst", "k", "here"]
theorem sc_least_mean : FnScope N_least_mean ["costs"] (defScope s_least_mean) := ⟨rfl, rfl, rfl, by decide +kernel, rfl, by decide +kernel, by decide +kernel⟩
abbrev N_lifted : List Str := ["costs", "mean", "many", "worths", "turn", "one", "other", "there"]
theorem sc_lifted : FnScope N_lifted ["costs", "mean"] (defScope s_lifted) := ⟨rfl, rfl, rfl, by decide +kernel, rfl, by decide +kernel, by decide +kernel⟩
abbrev N_dearest : List Str := ["book", "costs", "mean", "worths", "ways", "one", "row", "other", "there", "way"]
theorem sc_dearest : FnScope N_dearest ["book"] (defScope s_dearest) := ⟨rfl, rfl, rfl, by decide +kernel, rfl, by decide +kernel, by decide +kernel⟩
abbrev N_need_buying : List Str := ["book", "buying"]
theorem sc_need_buying : FnScope N_need_buying ["book", "buying"] (defScope s_need_buying) := ⟨rfl, rfl, rfl, by decide +kernel, rfl, by decide +kernel, by decide +kernel⟩
abbrev N_may_come : List Str := ["book", "kind", "buying"]
theorem sc_may_come : FnScope N_may_come ["book", "kind", "buying"] (defScope s_may_come) := ⟨rfl, rfl, rfl, by decide +kernel, rfl, by decide +kernel, by decide +kernel⟩
abbrev N__law_cell_at : List Str := ["script", "k"]
theorem sc__law_cell_at : FnScope N__law_cell_at ["script", "k"] (defScope s__law_cell_at) := ⟨rfl, rfl, rfl, by decide +kernel, rfl, by decide +kernel, by decide +kernel⟩
abbrev N__law_draws : List Str := ["cell", "many", "base", "found", "rest", "stirred", "k"]
theorem sc__law_draws : FnScope N__law_draws ["cell", "many", "base"] (defScope s__law_draws) := ⟨rfl, rfl, rfl, by decide +kernel, rfl, by decide +kernel, by decide +kernel⟩
abbrev N__law_best_good : List Str := ["prices", "weights", "amount", "best", "k", "one"]
theorem sc__law_best_good : FnScope N__law_best_good ["prices", "weights", "amount"] (defScope s__law_best_good) := ⟨rfl, rfl, rfl, by decide +kernel, rfl, by decide +kernel, by decide +kernel⟩
abbrev N__law_a_book : List Str := ["script", "at", "most", "heads", "goods", "many", "far", "way", "book", "k", "picks", "prices", "some", "amounts", "buying", "pick", "price", "amount"]
theorem sc__law_a_book : FnScope N__law_a_book ["script", "at", "most"] (defScope s__law_a_book) := ⟨rfl, rfl, rfl, by decide +kernel, rfl, by decide +kernel, by decide +kernel⟩
abbrev N_law : List Str := ["script", "book", "picks", "great", "more", "moved", "prices", "amounts", "some", "at", "by", "one", "scaled", "pick", "other", "amount"]
theorem sc_law : FnScope N_law ["script"] (defScope s_law) := ⟨rfl, rfl, rfl, by decide +kernel, rfl, by decide +kernel, by decide +kernel⟩
set_option maxHeartbeats 4000000 in
structure Tx (K : PySem.W.Frag) (mg : Str → Option Value) where
  a_is_buying : Addr
  d_is_buying : FuncData
  a_cost_at : Addr
  d_cost_at : FuncData
  a_costs_of : Addr
  d_costs_of : FuncData
  a_divisor : Addr
  d_divisor : FuncData
  a_fraction : Addr
  d_fraction : FuncData
  a_plus : Addr
  d_plus : FuncData
  a_minus : Addr
  d_minus : FuncData
  a_times : Addr
  d_times : FuncData
  a_over : Addr
  d_over : FuncData
  a_is_less : Addr
  d_is_less : FuncData
  a_lesser : Addr
  d_lesser : FuncData
  a_greater : Addr
  d_greater : FuncData
  a_way_between : Addr
  d_way_between : FuncData
  a_open_ways : Addr
  d_open_ways : FuncData
  a_barring_round : Addr
  d_barring_round : FuncData
  a_top_class : Addr
  d_top_class : FuncData
  a_any_wish : Addr
  d_any_wish : FuncData
  a_told_any : Addr
  d_told_any : FuncData
  a_step_worth : Addr
  d_step_worth : FuncData
  a_round_back : Addr
  d_round_back : FuncData
  a_lowered : Addr
  d_lowered : FuncData
  a_told_by : Addr
  d_told_by : FuncData
  a_has_wish : Addr
  d_has_wish : FuncData
  a_walks : Addr
  d_walks : FuncData
  a_least_mean : Addr
  d_least_mean : FuncData
  a_lifted : Addr
  d_lifted : FuncData
  a_dearest : Addr
  d_dearest : FuncData
  a_need_buying : Addr
  d_need_buying : FuncData
  a_may_come : Addr
  d_may_come : FuncData
  a__law_cell_at : Addr
  d__law_cell_at : FuncData
  a__law_draws : Addr
  d__law_draws : FuncData
  a__law_best_good : Addr
  d__law_best_good : FuncData
  a__law_a_book : Addr
  d__law_a_book : FuncData
  a_law : Addr
  d_law : FuncData
  F_is_buying : Fun K "is_buying" "is_buying" s_is_buying a_is_buying d_is_buying
  b_is_buying : Binds K d_is_buying ["thing"] []
  g_is_buying : mg "is_buying" = some (.ref a_is_buying)
  F_cost_at : Fun K "cost_at" "cost_at" s_cost_at a_cost_at d_cost_at
  b_cost_at : Binds K d_cost_at ["prices", "amounts"] []
  g_cost_at : mg "cost_at" = some (.ref a_cost_at)
  F_costs_of : Fun K "costs_of" "costs_of" s_costs_of a_costs_of d_costs_of
  b_costs_of : Binds K d_costs_of ["book"] []
  g_costs_of : mg "costs_of" = some (.ref a_costs_of)
  F_divisor : Fun K "divisor" "divisor" s_divisor a_divisor d_divisor
  b_divisor : Binds K d_divisor ["one", "other"] []
  g_divisor : mg "divisor" = some (.ref a_divisor)
  F_fraction : Fun K "fraction" "fraction" s_fraction a_fraction d_fraction
  b_fraction : Binds K d_fraction ["top", "bottom"] []
  g_fraction : mg "fraction" = some (.ref a_fraction)
  F_plus : Fun K "plus" "plus" s_plus a_plus d_plus
  b_plus : Binds K d_plus ["one", "other"] []
  g_plus : mg "plus" = some (.ref a_plus)
  F_minus : Fun K "minus" "minus" s_minus a_minus d_minus
  b_minus : Binds K d_minus ["one", "other"] []
  g_minus : mg "minus" = some (.ref a_minus)
  F_times : Fun K "times" "times" s_times a_times d_times
  b_times : Binds K d_times ["one", "number"] []
  g_times : mg "times" = some (.ref a_times)
  F_over : Fun K "over" "over" s_over a_over d_over
  b_over : Binds K d_over ["one", "number"] []
  g_over : mg "over" = some (.ref a_over)
  F_is_less : Fun K "is_less" "is_less" s_is_less a_is_less d_is_less
  b_is_less : Binds K d_is_less ["one", "other"] []
  g_is_less : mg "is_less" = some (.ref a_is_less)
  F_lesser : Fun K "lesser" "lesser" s_lesser a_lesser d_lesser
  b_lesser : Binds K d_lesser ["one", "other"] []
  g_lesser : mg "lesser" = some (.ref a_lesser)
  F_greater : Fun K "greater" "greater" s_greater a_greater d_greater
  b_greater : Binds K d_greater ["one", "other"] []
  g_greater : mg "greater" = some (.ref a_greater)
  F_way_between : Fun K "way_between" "way_between" s_way_between a_way_between d_way_between
  b_way_between : Binds K d_way_between ["ways", "one", "other"] []
  g_way_between : mg "way_between" = some (.ref a_way_between)
  F_open_ways : Fun K "open_ways" "open_ways" s_open_ways a_open_ways d_open_ways
  b_open_ways : Binds K d_open_ways ["costs"] []
  g_open_ways : mg "open_ways" = some (.ref a_open_ways)
  F_barring_round : Fun K "barring_round" "barring_round" s_barring_round a_barring_round d_barring_round
  b_barring_round : Binds K d_barring_round ["costs", "ways"] []
  g_barring_round : mg "barring_round" = some (.ref a_barring_round)
  F_top_class : Fun K "top_class" "top_class" s_top_class a_top_class d_top_class
  b_top_class : Binds K d_top_class ["ways", "left"] []
  g_top_class : mg "top_class" = some (.ref a_top_class)
  F_any_wish : Fun K "any_wish" "any_wish" s_any_wish a_any_wish d_any_wish
  b_any_wish : Binds K d_any_wish ["costs", "ways"] []
  g_any_wish : mg "any_wish" = some (.ref a_any_wish)
  F_told_any : Fun K "told_any" "told_any" s_told_any a_told_any d_told_any
  b_told_any : Binds K d_told_any ["costs"] []
  g_told_any : mg "told_any" = some (.ref a_told_any)
  F_step_worth : Fun K "step_worth" "step_worth" s_step_worth a_step_worth d_step_worth
  b_step_worth : Binds K d_step_worth ["kind", "costs", "worths", "one", "other"] []
  g_step_worth : mg "step_worth" = some (.ref a_step_worth)
  F_round_back : Fun K "round_back" "round_back" s_round_back a_round_back d_round_back
  b_round_back : Binds K d_round_back ["behind", "last", "many"] []
  g_round_back : mg "round_back" = some (.ref a_round_back)
  F_lowered : Fun K "lowered" "lowered" s_lowered a_lowered d_lowered
  b_lowered : Binds K d_lowered ["kind", "costs", "worths", "behind"] []
  g_lowered : mg "lowered" = some (.ref a_lowered)
  F_told_by : Fun K "told_by" "told_by" s_told_by a_told_by d_told_by
  b_told_by : Binds K d_told_by ["book", "kind"] []
  g_told_by : mg "told_by" = some (.ref a_told_by)
  F_has_wish : Fun K "has_wish" "has_wish" s_has_wish a_has_wish d_has_wish
  b_has_wish : Binds K d_has_wish ["book", "kind"] []
  g_has_wish : mg "has_wish" = some (.ref a_has_wish)
  F_walks : Fun K "walks" "walks" s_walks a_walks d_walks
  b_walks : Binds K d_walks ["costs"] []
  g_walks : mg "walks" = some (.ref a_walks)
  F_least_mean : Fun K "least_mean" "least_mean" s_least_mean a_least_mean d_least_mean
  b_least_mean : Binds K d_least_mean ["costs"] []
  g_least_mean : mg "least_mean" = some (.ref a_least_mean)
  F_lifted : Fun K "lifted" "lifted" s_lifted a_lifted d_lifted
  b_lifted : Binds K d_lifted ["costs", "mean"] []
  g_lifted : mg "lifted" = some (.ref a_lifted)
  F_dearest : Fun K "dearest" "dearest" s_dearest a_dearest d_dearest
  b_dearest : Binds K d_dearest ["book"] []
  g_dearest : mg "dearest" = some (.ref a_dearest)
  F_need_buying : Fun K "need_buying" "need_buying" s_need_buying a_need_buying d_need_buying
  b_need_buying : Binds K d_need_buying ["book", "buying"] []
  g_need_buying : mg "need_buying" = some (.ref a_need_buying)
  F_may_come : Fun K "may_come" "may_come" s_may_come a_may_come d_may_come
  b_may_come : Binds K d_may_come ["book", "kind", "buying"] []
  g_may_come : mg "may_come" = some (.ref a_may_come)
  F__law_cell_at : Fun K "_law_cell_at" "_law_cell_at" s__law_cell_at a__law_cell_at d__law_cell_at
  b__law_cell_at : Binds K d__law_cell_at ["script", "k"] []
  g__law_cell_at : mg "_law_cell_at" = some (.ref a__law_cell_at)
  F__law_draws : Fun K "_law_draws" "_law_draws" s__law_draws a__law_draws d__law_draws
  b__law_draws : Binds K d__law_draws ["cell", "many", "base"] []
  g__law_draws : mg "_law_draws" = some (.ref a__law_draws)
  F__law_best_good : Fun K "_law_best_good" "_law_best_good" s__law_best_good a__law_best_good d__law_best_good
  b__law_best_good : Binds K d__law_best_good ["prices", "weights", "amount"] []
  g__law_best_good : mg "_law_best_good" = some (.ref a__law_best_good)
  F__law_a_book : Fun K "_law_a_book" "_law_a_book" s__law_a_book a__law_a_book d__law_a_book
  b__law_a_book : Binds K d__law_a_book ["script", "at", "most"] []
  g__law_a_book : mg "_law_a_book" = some (.ref a__law_a_book)
  F_law : Fun K "law" "law" s_law a_law d_law
  b_law : Binds K d_law ["script"] []
  g_law : mg "law" = some (.ref a_law)
  z_abs : mg "abs" = none
  z_all : mg "all" = none
  z_int : mg "int" = none
  z_len : mg "len" = none
  z_list : mg "list" = none
  z_max : mg "max" = none
  z_min : mg "min" = none
  z_range : mg "range" = none
  z_sum : mg "sum" = none
  z_tuple : mg "tuple" = none
  z_zip : mg "zip" = none
  t_MOST_GOODS : Tok
  c_MOST_GOODS : mg "MOST_GOODS" = some (.int 6 t_MOST_GOODS)
  t_MOST_AMOUNT : Tok
  c_MOST_AMOUNT : mg "MOST_AMOUNT" = some (.int 1000000 t_MOST_AMOUNT)
section
variable {P : Program} {w : World} {K : PySem.W.Frag} {mg : Str → Option Value} {base : Heap}
set_option maxHeartbeats 4000000 in
theorem ok_is_buying (X : Tx K mg) : FnOk P w K mg base CX0 1 X.a_is_buying X.d_is_buying ["thing"] (spT K 1 Q.is_buying) := by
  have nd : (N_is_buying).Nodup := sc_is_buying.nd
  exact fn_ok (k := 0) (N := N_is_buying) X.F_is_buying sc_is_buying fun cdv A outer s H E hr =>
    psm_cons (psm_asg (pm_var 0) (gm_tup rfl (gsm_cons (gm_name (i := 1) nd) (gsm_cons (gm_name (i := 2) nd) (gsm_nil))) (gl_cons (gl_cons gl_nil))))
      (psm_cons (psm_if (ptm_w (pwm_or (ptm_not (ptm_chain op_le r2m_le op_le r2m_le (pm_int) (pm_callB call_lenA cm_len (by rfl) X.z_len bt_len (pam_cons (pm_var 1) (pam_nil))) (pm_globInt (by rfl) X.c_MOST_GOODS))) (pwm_or1 (ptm_cmp (op_neD hr.units) r2m_ne (pm_callB call_lenA cm_len (by rfl) X.z_len bt_len (pam_cons (pm_var 1) (pam_nil))) (pm_callB call_lenA cm_len (by rfl) X.z_len bt_len (pam_cons (pm_var 2) (pam_nil))) (nomark _))))) (psm_one (psm_ret (pm_bl))) (psm_nil))
      (psm_cons (psm_if (ptm_not (ptm_val (pm_callB (cr_all rfl) cm_all (by rfl) X.z_all bt_all (pam_cons (pm_lc (own := [("price", 3)]) rfl nd (pim_seqB (pm_var 1)) (blkOk_by (by rfl)) (fun _ _ _ _ _ => gm_name (i := 3) nd) (fun _ _ _ _ _ => ptsm_nil) (fun _ _ _ _ _ => pm_chain op_le r2m_le op_le r2m_le (pm_int) (pm_var 3) (pm_globInt (by rfl) X.c_MOST_AMOUNT))) (pam_nil))))) (psm_one (psm_ret (pm_bl))) (psm_nil))
      (psm_one (psm_ret (pm_and (pm_callB (cr_all rfl) cm_all (by rfl) X.z_all bt_all (pam_cons (pm_lc (own := [("amount", 4)]) rfl nd (pim_seqB (pm_var 2)) (blkOk_by (by rfl)) (fun _ _ _ _ _ => gm_name (i := 4) nd) (fun _ _ _ _ _ => ptsm_nil) (fun _ _ _ _ _ => pm_chain op_le r2m_le op_le r2m_le (pm_int) (pm_var 4) (pm_globInt (by rfl) X.c_MOST_AMOUNT))) (pam_nil))) (pm_one (pm_cmp op_gt r2m_gt (pm_callB (cr_maxA rfl hr.units) cm_max (by rfl) X.z_max bt_max (pam_cons (pm_var 2) (pam_nil))) (pm_int) (nomark _))))))))
set_option maxHeartbeats 4000000 in
theorem ok_cost_at (X : Tx K mg) : FnOk P w K mg base CX0 1 X.a_cost_at X.d_cost_at ["prices", "amounts"] (spT K 2 Q.cost_at) := by
  have nd : (N_cost_at).Nodup := sc_cost_at.nd
  exact fn_ok (k := 0) (N := N_cost_at) X.F_cost_at sc_cost_at fun cdv A outer s H E hr =>
    psm_one (psm_ret (pm_callB (cr_sum rfl) cm_sum (by rfl) X.z_sum bt_sum (pam_cons (pm_lc (own := [("price", 2), ("amount", 3)]) rfl nd (pim_zip (by rfl) X.z_zip (pm_var 0) (pm_var 1)) (blkOk_by (by rfl)) (fun _ _ _ _ _ => gm_tup rfl (gsm_cons (gm_name (i := 2) nd) (gsm_cons (gm_name (i := 3) nd) (gsm_nil))) (gl_cons (gl_cons gl_nil))) (fun _ _ _ _ _ => ptsm_nil) (fun _ _ _ _ _ => pm_op op_mulA r2m_mul (pm_var 2) (pm_var 3))) (pam_nil))))
set_option maxHeartbeats 4000000 in
theorem ok_costs_of (X : Tx K mg) : FnOk P w K mg base CX0 2 X.a_costs_of X.d_costs_of ["book"] (spT K 1 Q.costs_of) := by
  have nd : (N_costs_of).Nodup := sc_costs_of.nd
  exact fn_ok (k := 1) (N := N_costs_of) X.F_costs_of sc_costs_of fun cdv A outer s H E hr =>
    psm_cons (psm_setF (i := 1) nd (pf_lst (paf_nil)))
      (psm_cons (psm_for PassesOwn.never rfl (pim_seq (pm_var 0)) (gm_tup rfl (gsm_cons (gm_name (i := 2) nd) (gsm_cons (gm_name (i := 3) nd) (gsm_nil))) (gl_cons (gl_cons gl_nil))) (psm_one (psm_append (pp_var 1) (pm_lc (own := [("other", 4), ("amounts", 5)]) rfl nd (pim_seqB (pm_var 0)) (blkOk_by (by rfl)) (fun _ _ _ _ _ => gm_tup rfl (gsm_cons (gm_name (i := 4) nd) (gsm_cons (gm_name (i := 5) nd) (gsm_nil))) (gl_cons (gl_cons gl_nil))) (fun _ _ _ _ _ => ptsm_nil) (fun _ _ _ _ _ => pm_call (ok_cost_at X) (hr.mono (by decide)) (by rfl) X.g_cost_at X.F_cost_at.kp X.b_cost_at (pam_cons (pm_var 2) (pam_cons (pm_var 5) (pam_nil))) (lenS len1))))))
      (psm_one (psm_retV 1)))
set_option maxHeartbeats 4000000 in
theorem ok_divisor (X : Tx K mg) : FnOk P w K mg base CX0 1 X.a_divisor X.d_divisor ["one", "other"] (spT K 2 Q.divisor) := by
  have nd : (N_divisor).Nodup := sc_divisor.nd
  exact fn_ok (k := 0) (N := N_divisor) X.F_divisor sc_divisor fun cdv A outer s H E hr =>
    psm_cons (psm_set (i := 0) nd (pm_callB call_abs cm_abs (by rfl) X.z_abs bt_abs (pam_cons (pm_var 0) (pam_nil))))
      (psm_cons (psm_set (i := 1) nd (pm_callB call_abs cm_abs (by rfl) X.z_abs bt_abs (pam_cons (pm_var 1) (pam_nil))))
      (psm_cons (psm_while PassesOwn.never (ptm_cmp op_gt r2m_gt (pm_var 1) (pm_int) (nomark _)) (psm_one (psm_par (i := 0) (j := 1) rfl nd (by decide) (pam_cons (pm_var 1) (pam_cons (pm_op op_modN r2m_mod (pm_var 0) (pm_var 1)) (pam_nil))) (by rfl))))
      (psm_one (psm_retV 0))))
set_option maxHeartbeats 4000000 in
theorem ok_fraction (X : Tx K mg) : FnOk P w K mg base CX0 2 X.a_fraction X.d_fraction ["top", "bottom"] (spT K 2 Q.fraction) := by
  have nd : (N_fraction).Nodup := sc_fraction.nd
  exact fn_ok (k := 1) (N := N_fraction) X.F_fraction sc_fraction fun cdv A outer s H E hr =>
    psm_cons (psm_set (i := 2) nd (pm_call (ok_divisor X) (hr.mono (by decide)) (by rfl) X.g_divisor X.F_divisor.kp X.b_divisor (pam_cons (pm_var 0) (pam_cons (pm_var 1) (pam_nil))) (lenS len1)))
      (psm_cons (psm_if (ptm_cmp op_lt r2m_lt (pm_var 1) (pm_int) (nomark _)) (psm_one (psm_set (i := 2) nd (pm_op op_sub r2m_sub (pm_int) (pm_var 2)))) (psm_nil))
      (psm_one (psm_ret (pm_tup (pam_cons (pm_op op_fdivB r2m_fdiv (pm_var 0) (pm_var 2)) (pam_cons (pm_op op_fdivB r2m_fdiv (pm_var 1) (pm_var 2)) (pam_nil)))))))
set_option maxHeartbeats 4000000 in
theorem ok_plus (X : Tx K mg) : FnOk P w K mg base CX0 3 X.a_plus X.d_plus ["one", "other"] (spT K 2 Q.plus) := by
  have nd : (N_plus).Nodup := sc_plus.nd
  exact fn_ok (k := 2) (N := N_plus) X.F_plus sc_plus fun cdv A outer s H E hr =>
    psm_one (psm_ret (pm_call (ok_fraction X) (hr.mono (by decide)) (by rfl) X.g_fraction X.F_fraction.kp X.b_fraction (pam_cons (pm_op op_addA r2m_add (pm_op op_mulA r2m_mul (pm_ix ix_seq r2m_ix (pm_var 0) (pm_int) (fun _ _ => rfl)) (pm_ix ix_seq r2m_ix (pm_var 1) (pm_int) (fun _ _ => rfl))) (pm_op op_mulA r2m_mul (pm_ix ix_seq r2m_ix (pm_var 1) (pm_int) (fun _ _ => rfl)) (pm_ix ix_seq r2m_ix (pm_var 0) (pm_int) (fun _ _ => rfl)))) (pam_cons (pm_op op_mulA r2m_mul (pm_ix ix_seq r2m_ix (pm_var 0) (pm_int) (fun _ _ => rfl)) (pm_ix ix_seq r2m_ix (pm_var 1) (pm_int) (fun _ _ => rfl))) (pam_nil))) (lenS len1)))
set_option maxHeartbeats 4000000 in
theorem ok_minus (X : Tx K mg) : FnOk P w K mg base CX0 3 X.a_minus X.d_minus ["one", "other"] (spT K 2 Q.minus) := by
  have nd : (N_minus).Nodup := sc_minus.nd
  exact fn_ok (k := 2) (N := N_minus) X.F_minus sc_minus fun cdv A outer s H E hr =>
    psm_one (psm_ret (pm_call (ok_fraction X) (hr.mono (by decide)) (by rfl) X.g_fraction X.F_fraction.kp X.b_fraction (pam_cons (pm_op op_sub r2m_sub (pm_op op_mulA r2m_mul (pm_ix ix_seq r2m_ix (pm_var 0) (pm_int) (fun _ _ => rfl)) (pm_ix ix_seq r2m_ix (pm_var 1) (pm_int) (fun _ _ => rfl))) (pm_op op_mulA r2m_mul (pm_ix ix_seq r2m_ix (pm_var 1) (pm_int) (fun _ _ => rfl)) (pm_ix ix_seq r2m_ix (pm_var 0) (pm_int) (fun _ _ => rfl)))) (pam_cons (pm_op op_mulA r2m_mul (pm_ix ix_seq r2m_ix (pm_var 0) (pm_int) (fun _ _ => rfl)) (pm_ix ix_seq r2m_ix (pm_var 1) (pm_int) (fun _ _ => rfl))) (pam_nil))) (lenS len1)))
set_option maxHeartbeats 4000000 in
theorem ok_times (X : Tx K mg) : FnOk P w K mg base CX0 3 X.a_times X.d_times ["one", "number"] (spT K 2 Q.times) := by
  have nd : (N_times).Nodup := sc_times.nd
  exact fn_ok (k := 2) (N := N_times) X.F_times sc_times fun cdv A outer s H E hr =>
    psm_one (psm_ret (pm_call (ok_fraction X) (hr.mono (by decide)) (by rfl) X.g_fraction X.F_fraction.kp X.b_fraction (pam_cons (pm_op op_mulA r2m_mul (pm_ix ix_seq r2m_ix (pm_var 0) (pm_int) (fun _ _ => rfl)) (pm_var 1)) (pam_cons (pm_ix ix_seq r2m_ix (pm_var 0) (pm_int) (fun _ _ => rfl)) (pam_nil))) (lenS len1)))
set_option maxHeartbeats 4000000 in
theorem ok_over (X : Tx K mg) : FnOk P w K mg base CX0 3 X.a_over X.d_over ["one", "number"] (spT K 2 Q.over) := by
  have nd : (N_over).Nodup := sc_over.nd
  exact fn_ok (k := 2) (N := N_over) X.F_over sc_over fun cdv A outer s H E hr =>
    psm_one (psm_ret (pm_call (ok_fraction X) (hr.mono (by decide)) (by rfl) X.g_fraction X.F_fraction.kp X.b_fraction (pam_cons (pm_ix ix_seq r2m_ix (pm_var 0) (pm_int) (fun _ _ => rfl)) (pam_cons (pm_op op_mulA r2m_mul (pm_ix ix_seq r2m_ix (pm_var 0) (pm_int) (fun _ _ => rfl)) (pm_var 1)) (pam_nil))) (lenS len1)))
set_option maxHeartbeats 4000000 in
theorem ok_is_less (X : Tx K mg) : FnOk P w K mg base CX0 1 X.a_is_less X.d_is_less ["one", "other"] (spT K 2 Q.is_less) := by
  have nd : (N_is_less).Nodup := sc_is_less.nd
  exact fn_ok (k := 0) (N := N_is_less) X.F_is_less sc_is_less fun cdv A outer s H E hr =>
    psm_one (psm_ret (pm_cmp op_lt r2m_lt (pm_op op_mulA r2m_mul (pm_ix ix_seq r2m_ix (pm_var 0) (pm_int) (fun _ _ => rfl)) (pm_ix ix_seq r2m_ix (pm_var 1) (pm_int) (fun _ _ => rfl))) (pm_op op_mulA r2m_mul (pm_ix ix_seq r2m_ix (pm_var 1) (pm_int) (fun _ _ => rfl)) (pm_ix ix_seq r2m_ix (pm_var 0) (pm_int) (fun _ _ => rfl))) (nomark _)))
set_option maxHeartbeats 4000000 in
theorem ok_lesser (X : Tx K mg) : FnOk P w K mg base CX0 2 X.a_lesser X.d_lesser ["one", "other"] (spT K 2 Q.lesser) := by
  have nd : (N_lesser).Nodup := sc_lesser.nd
  exact fn_ok (k := 1) (N := N_lesser) X.F_lesser sc_lesser fun cdv A outer s H E hr =>
    psm_cons (psm_if (ptm_val (pm_call (ok_is_less X) (hr.mono (by decide)) (by rfl) X.g_is_less X.F_is_less.kp X.b_is_less (pam_cons (pm_var 1) (pam_cons (pm_var 0) (pam_nil))) (lenS len1))) (psm_one (psm_retV 1)) (psm_nil))
      (psm_one (psm_retV 0))
set_option maxHeartbeats 4000000 in
theorem ok_greater (X : Tx K mg) : FnOk P w K mg base CX0 2 X.a_greater X.d_greater ["one", "other"] (spT K 2 Q.greater) := by
  have nd : (N_greater).Nodup := sc_greater.nd
  exact fn_ok (k := 1) (N := N_greater) X.F_greater sc_greater fun cdv A outer s H E hr =>
    psm_cons (psm_if (ptm_val (pm_call (ok_is_less X) (hr.mono (by decide)) (by rfl) X.g_is_less X.F_is_less.kp X.b_is_less (pam_cons (pm_var 0) (pam_cons (pm_var 1) (pam_nil))) (lenS len1))) (psm_one (psm_retV 1)) (psm_nil))
      (psm_one (psm_retV 0))
set_option maxHeartbeats 4000000 in
theorem ok_way_between (X : Tx K mg) : FnOk P w K mg base CX0 1 X.a_way_between X.d_way_between ["ways", "one", "other"] (spT K 3 Q.way_between) := by
  have nd : (N_way_between).Nodup := sc_way_between.nd
  exact fn_ok (k := 0) (N := N_way_between) X.F_way_between sc_way_between fun cdv A outer s H E hr =>
    psm_cons (psm_setF (i := 3) nd (pf_done (pm_var 1) (pm_non)))
      (psm_cons (psm_setF (i := 4) nd (pf_lst (paf_cons (pf_pure (pm_var 1)) (paf_nil))))
      (psm_cons (psm_while PassesOwn.never (ptm_w (pwm_and (ptm_cmp (op_neD hr.units) r2m_ne (pm_var 4) (pm_lst (pam_nil)) (nomark _)) (pwm_and1 (ptm_dnotin (u1 hr.units) (pm_var 2) (pm_var 3))))) (psm_cons (psm_setPopAt (j := 5) nd (pp_var 4) (pm_int))
      (psm_one (psm_for PassesOwn.never rfl (pim_range1 (fz := true) (by rfl) X.z_range (pm_callB call_lenA cm_len (by rfl) X.z_len bt_len (pam_cons (pm_var 0) (pam_nil)))) (gm_name (i := 6) nd) (psm_one (psm_if (ptm_w (pwm_and (ptm_val (pm_ix ix_seq r2m_ix (pm_ix ix_seq r2m_ix (pm_var 0) (pm_var 5) (fun _ _ => rfl)) (pm_var 6) (fun _ _ => rfl))) (pwm_and1 (ptm_dnotin (u1 hr.units) (pm_var 6) (pm_var 3))))) (psm_cons (psm_dput 3 (u1 hr.units) (pm_var 6) (pm_var 5))
      (psm_one (psm_append (pp_var 4) (pm_var 6)))) (psm_nil)))))))
      (psm_cons (psm_if (ptm_dnotin (u1 hr.units) (pm_var 2) (pm_var 3)) (psm_one (psm_ret (pm_non))) (psm_nil))
      (psm_cons (psm_setF (i := 7) nd (pf_lst (paf_cons (pf_pure (pm_var 2)) (paf_nil))))
      (psm_cons (psm_while PassesOwn.never (ptm_cmp (op_neD hr.units) r2m_ne (pm_ix ix_seq r2m_ix (pm_var 7) (pm_int) (fun _ _ => rfl)) (pm_var 1) (nomark _)) (psm_one (psm_insert (pp_var 7) (pm_int) (pm_dget (u1 hr.units) (pm_var 3) (pm_ix ix_seq r2m_ix (pm_var 7) (pm_int) (fun _ _ => rfl)) (fun _ _ => rfl)))))
      (psm_one (psm_retV 7)))))))
set_option maxHeartbeats 4000000 in
theorem ok_open_ways (X : Tx K mg) : FnOk P w K mg base CX0 1 X.a_open_ways X.d_open_ways ["costs"] (spT K 1 Q.open_ways) := by
  have nd : (N_open_ways).Nodup := sc_open_ways.nd
  exact fn_ok (k := 0) (N := N_open_ways) X.F_open_ways sc_open_ways fun cdv A outer s H E hr =>
    psm_cons (psm_set (i := 1) nd (pm_listR1 rfl (by rfl) X.z_list (by rfl) X.z_range (pm_callB call_lenA cm_len (by rfl) X.z_len bt_len (pam_cons (pm_var 0) (pam_nil)))))
      (psm_cons (psm_setF (i := 2) nd (pf_lst (paf_nil)))
      (psm_cons (psm_for PassesOwn.never rfl (pim_seq (pm_var 1)) (gm_name (i := 3) nd) (psm_one (psm_append (pp_var 2) (pm_lc (own := [("j", 4)]) rfl nd (pim_seqB (pm_var 1)) (blkOk_by (by rfl)) (fun _ _ _ _ _ => gm_name (i := 4) nd) (fun _ _ _ _ _ => ptsm_nil) (fun _ _ _ _ _ => pm_and (pm_cmp (op_neD hr.units) r2m_ne (pm_var 4) (pm_var 3) (nomark _)) (pm_one (pm_cmp op_le r2m_le (pm_ix ix_seq r2m_ix (pm_ix ix_seq r2m_ix (pm_var 0) (pm_var 3) (fun _ _ => rfl)) (pm_var 4) (fun _ _ => rfl)) (pm_ix ix_seq r2m_ix (pm_ix ix_seq r2m_ix (pm_var 0) (pm_var 3) (fun _ _ => rfl)) (pm_var 3) (fun _ _ => rfl)) (nomark _))))))))
      (psm_one (psm_retV 2))))
set_option maxHeartbeats 4000000 in
theorem ok_barring_round (X : Tx K mg) : FnOk P w K mg base CX0 2 X.a_barring_round X.d_barring_round ["costs", "ways"] (spT K 2 Q.barring_round) := by
  have nd : (N_barring_round).Nodup := sc_barring_round.nd
  exact fn_ok (k := 1) (N := N_barring_round) X.F_barring_round sc_barring_round fun cdv A outer s H E hr =>
    psm_cons (psm_for PassesOwn.never rfl (pim_range1 (fz := true) (by rfl) X.z_range (pm_callB call_lenA cm_len (by rfl) X.z_len bt_len (pam_cons (pm_var 0) (pam_nil)))) (gm_name (i := 2) nd) (psm_one (psm_for PassesOwn.never rfl (pim_range1 (fz := true) (by rfl) X.z_range (pm_callB call_lenA cm_len (by rfl) X.z_len bt_len (pam_cons (pm_var 0) (pam_nil)))) (gm_name (i := 3) nd) (psm_one (psm_if (ptm_cmp op_lt r2m_lt (pm_ix ix_seq r2m_ix (pm_ix ix_seq r2m_ix (pm_var 0) (pm_var 2) (fun _ _ => rfl)) (pm_var 3) (fun _ _ => rfl)) (pm_ix ix_seq r2m_ix (pm_ix ix_seq r2m_ix (pm_var 0) (pm_var 2) (fun _ _ => rfl)) (pm_var 2) (fun _ _ => rfl)) (nomark _)) (psm_cons (psm_set (i := 4) nd (pm_call (ok_way_between X) (hr.mono (by decide)) (by rfl) X.g_way_between X.F_way_between.kp X.b_way_between (pam_cons (pm_var 1) (pam_cons (pm_var 3) (pam_cons (pm_var 2) (pam_nil)))) (lenS (lenS len1))))
      (psm_one (psm_if (ptm_cmp op_notN r2m_notn (pm_var 4) (pm_non) (nomark _)) (psm_one (psm_retV 4)) (psm_nil)))) (psm_nil))))))
      (psm_one (psm_ret (pm_non)))
set_option maxHeartbeats 4000000 in
theorem ok_top_class (X : Tx K mg) : FnOk P w K mg base CX0 2 X.a_top_class X.d_top_class ["ways", "left"] (spT K 2 Q.top_class) := by
  have nd : (N_top_class).Nodup := sc_top_class.nd
  exact fn_ok (k := 1) (N := N_top_class) X.F_top_class sc_top_class fun cdv A outer s H E hr =>
    psm_cons (psm_for PassesOwn.never rfl (pim_seq (pm_var 1)) (gm_name (i := 2) nd) (psm_cons (psm_setLc (i := 3) (own := [("j", 4)]) rfl nd (pim_seqB (pm_var 1)) (blkOk_by (by rfl)) (fun _ _ _ _ _ => gm_name (i := 4) nd) (fun _ _ _ _ _ => ptsm_one (ptm_cmp op_notN r2m_notn (pm_call (ok_way_between X) (hr.mono (by decide)) (by rfl) X.g_way_between X.F_way_between.kp X.b_way_between (pam_cons (pm_var 0) (pam_cons (pm_var 4) (pam_cons (pm_var 2) (pam_nil)))) (lenS (lenS len1))) (pm_non) (nomark _))) (fun _ _ _ _ _ => pm_var 4) (sw_true rfl rfl rfl (by rfl)))
      (psm_one (psm_if (ptm_val (pm_callB (cr_all rfl) cm_all (by rfl) X.z_all bt_all (pam_cons (pm_lc (own := [("j", 4)]) rfl nd (pim_seqB (pm_var 3)) (blkOk_by (by rfl)) (fun _ _ _ _ _ => gm_name (i := 4) nd) (fun _ _ _ _ _ => ptsm_nil) (fun _ _ _ _ _ => pm_cmp op_notN r2m_notn (pm_call (ok_way_between X) (hr.mono (by decide)) (by rfl) X.g_way_between X.F_way_between.kp X.b_way_between (pam_cons (pm_var 0) (pam_cons (pm_var 2) (pam_cons (pm_var 4) (pam_nil)))) (lenS (lenS len1))) (pm_non) (nomark _))) (pam_nil)))) (psm_one (psm_retV 3)) (psm_nil)))))
      (psm_one (psm_ret (pm_lst (pam_nil))))
set_option maxHeartbeats 4000000 in
theorem ok_any_wish (X : Tx K mg) : FnOk P w K mg base CX0 4 X.a_any_wish X.d_any_wish ["costs", "ways"] (spT K 2 Q.any_wish) := by
  have nd : (N_any_wish).Nodup := sc_any_wish.nd
  exact fn_ok (k := 3) (N := N_any_wish) X.F_any_wish sc_any_wish fun cdv A outer s H E hr =>
    psm_cons (psm_setF (i := 2) nd (pf_dnew))
      (psm_cons (psm_setF (i := 3) nd (pf_dnew))
      (psm_cons (psm_set (i := 4) nd (pm_listR1 rfl (by rfl) X.z_list (by rfl) X.z_range (pm_callB call_lenA cm_len (by rfl) X.z_len bt_len (pam_cons (pm_var 0) (pam_nil)))))
      (psm_cons (psm_while PassesOwn.never (ptm_cmp (op_neD hr.units) r2m_ne (pm_var 4) (pm_lst (pam_nil)) (nomark _)) (psm_cons (psm_set (i := 5) nd (pm_call (ok_top_class X) (hr.mono (by decide)) (by rfl) X.g_top_class X.F_top_class.kp X.b_top_class (pam_cons (pm_var 1) (pam_cons (pm_var 4) (pam_nil))) (lenS len1)))
      (psm_cons (psm_set (i := 6) nd (pm_tup (pam_cons (pm_int) (pam_cons (pm_int) (pam_nil)))))
      (psm_cons (psm_set (i := 7) nd (pm_tup (pam_cons (pm_int) (pam_cons (pm_int) (pam_nil)))))
      (psm_cons (psm_forW 2 [8, 9, 10] PassesOwn.never rfl (gm_name (i := 8) nd) (psm_one (psm_for PassesOwn.never rfl (pim_seq (pm_var 5)) (gm_name (i := 9) nd) (psm_cons (psm_set (i := 10) nd (pm_call (ok_plus X) (hr.mono (by decide)) (by rfl) X.g_plus X.F_plus.kp X.b_plus (pam_cons (pm_dget (u1 hr.units) (pm_var 2) (pm_var 8) (fun _ _ => rfl)) (pam_cons (pm_call (ok_times X) (hr.mono (by decide)) (by rfl) X.g_times X.F_times.kp X.b_times (pam_cons (pm_dget (u1 hr.units) (pm_var 3) (pm_var 8) (fun _ _ => rfl)) (pam_cons (pm_op op_sub r2m_sub (pm_ix ix_seq r2m_ix (pm_ix ix_seq r2m_ix (pm_var 0) (pm_var 8) (fun _ _ => rfl)) (pm_var 9) (fun _ _ => rfl)) (pm_ix ix_seq r2m_ix (pm_ix ix_seq r2m_ix (pm_var 0) (pm_var 8) (fun _ _ => rfl)) (pm_var 8) (fun _ _ => rfl))) (pam_nil))) (lenS len1)) (pam_nil))) (lenS len1)))
      (psm_one (psm_set (i := 6) nd (pm_call (ok_lesser X) (hr.mono (by decide)) (by rfl) X.g_lesser X.F_lesser.kp X.b_lesser (pam_cons (pm_var 6) (pam_cons (pm_call (ok_lesser X) (hr.mono (by decide)) (by rfl) X.g_lesser X.F_lesser.kp X.b_lesser (pam_cons (pm_var 10) (pam_cons (pm_dget (u1 hr.units) (pm_var 2) (pm_var 8) (fun _ _ => rfl)) (pam_nil))) (lenS len1)) (pam_nil))) (lenS len1))))))))
      (psm_cons (psm_forW 2 [8, 9, 10] PassesOwn.never rfl (gm_name (i := 8) nd) (psm_one (psm_for PassesOwn.never rfl (pim_seq (pm_var 5)) (gm_name (i := 9) nd) (psm_one (psm_set (i := 7) nd (pm_call (ok_greater X) (hr.mono (by decide)) (by rfl) X.g_greater X.F_greater.kp X.b_greater (pam_cons (pm_var 7) (pam_cons (pm_call (ok_over X) (hr.mono (by decide)) (by rfl) X.g_over X.F_over.kp X.b_over (pam_cons (pm_call (ok_minus X) (hr.mono (by decide)) (by rfl) X.g_minus X.F_minus.kp X.b_minus (pam_cons (pm_dget (u1 hr.units) (pm_var 2) (pm_var 8) (fun _ _ => rfl)) (pam_cons (pm_var 6) (pam_nil))) (lenS len1)) (pam_cons (pm_op op_sub r2m_sub (pm_ix ix_seq r2m_ix (pm_ix ix_seq r2m_ix (pm_var 0) (pm_var 9) (fun _ _ => rfl)) (pm_var 8) (fun _ _ => rfl)) (pm_ix ix_seq r2m_ix (pm_ix ix_seq r2m_ix (pm_var 0) (pm_var 9) (fun _ _ => rfl)) (pm_var 9) (fun _ _ => rfl))) (pam_nil))) (lenS len1)) (pam_nil))) (lenS len1)))))))
      (psm_cons (psm_setLc (i := 4) (own := [("k", 9)]) rfl nd (pim_seqB (pm_var 4)) (blkOk_by (by rfl)) (fun _ _ _ _ _ => gm_name (i := 9) nd) (fun _ _ _ _ _ => ptsm_one (ptm_cmp op_notIn_seq r2m_notIn (pm_var 9) (pm_var 5) rfl)) (fun _ _ _ _ _ => pm_var 9) (sw_true rfl rfl rfl (by rfl)))
      (psm_one (psm_for PassesOwn.never rfl (pim_seq (pm_var 5)) (gm_name (i := 9) nd) (psm_cons (psm_dput 2 (u1 hr.units) (pm_var 9) (pm_var 6))
      (psm_one (psm_dput 3 (u1 hr.units) (pm_var 9) (pm_var 7)))))))))))))
      (psm_cons (psm_set (i := 11) nd (pm_listR1 rfl (by rfl) X.z_list (by rfl) X.z_range (pm_callB call_lenA cm_len (by rfl) X.z_len bt_len (pam_cons (pm_var 0) (pam_nil)))))
      (psm_one (psm_ret (pm_tup (pam_cons (pm_lc (own := [("k", 9)]) rfl nd (pim_seqB (pm_var 11)) (blkOk_by (by rfl)) (fun _ _ _ _ _ => gm_name (i := 9) nd) (fun _ _ _ _ _ => ptsm_nil) (fun _ _ _ _ _ => pm_dget (u1 hr.units) (pm_var 2) (pm_var 9) (fun _ _ => rfl))) (pam_cons (pm_lc (own := [("k", 9)]) rfl nd (pim_seqB (pm_var 11)) (blkOk_by (by rfl)) (fun _ _ _ _ _ => gm_name (i := 9) nd) (fun _ _ _ _ _ => ptsm_nil) (fun _ _ _ _ _ => pm_dget (u1 hr.units) (pm_var 3) (pm_var 9) (fun _ _ => rfl))) (pam_nil))))))))))
set_option maxHeartbeats 4000000 in
theorem ok_told_any (X : Tx K mg) : FnOk P w K mg base CX0 5 X.a_told_any X.d_told_any ["costs"] (spT K 1 Q.told_any) := by
  have nd : (N_told_any).Nodup := sc_told_any.nd
  exact fn_ok (k := 4) (N := N_told_any) X.F_told_any sc_told_any fun cdv A outer s H E hr =>
    psm_cons (psm_set (i := 1) nd (pm_call (ok_open_ways X) (hr.mono (by decide)) (by rfl) X.g_open_ways X.F_open_ways.kp X.b_open_ways (pam_cons (pm_var 0) (pam_nil)) len1))
      (psm_cons (psm_set (i := 2) nd (pm_call (ok_barring_round X) (hr.mono (by decide)) (by rfl) X.g_barring_round X.F_barring_round.kp X.b_barring_round (pam_cons (pm_var 0) (pam_cons (pm_var 1) (pam_nil))) (lenS len1)))
      (psm_cons (psm_if (ptm_cmp op_notN r2m_notn (pm_var 2) (pm_non) (nomark _)) (psm_one (psm_ret (pm_tup (pam_cons (pm_str) (pam_cons (pm_var 2) (pam_nil)))))) (psm_nil))
      (psm_one (psm_ret (pm_tup (pam_cons (pm_str) (pam_cons (pm_call (ok_any_wish X) (hr.mono (by decide)) (by rfl) X.g_any_wish X.F_any_wish.kp X.b_any_wish (pam_cons (pm_var 0) (pam_cons (pm_var 1) (pam_nil))) (lenS len1)) (pam_nil))))))))
set_option maxHeartbeats 4000000 in
theorem ok_step_worth (X : Tx K mg) : FnOk P w K mg base CX0 4 X.a_step_worth X.d_step_worth ["kind", "costs", "worths", "one", "other"] (spIO K 5 Q.step_worth) := by
  have nd : (N_step_worth).Nodup := sc_step_worth.nd
  exact fn_okIO (js := [2]) (k := 3) (N := N_step_worth) X.F_step_worth sc_step_worth fun cdv A outer s H E hr =>
    psm_cons (psm_if (ptm_cmp (op_eqD hr.units) r2m_eq (pm_var 0) (pm_str) (nomark _)) (psm_one (psm_retIO (js := [2]) (pm_call (ok_plus X) (hr.mono (by decide)) (by rfl) X.g_plus X.F_plus.kp X.b_plus (pam_cons (pm_ix ix_seq r2m_ix (pm_var 2) (pm_var 3) (fun _ _ => rfl)) (pam_cons (pm_tup (pam_cons (pm_op op_sub r2m_sub (pm_ix ix_seq r2m_ix (pm_ix ix_seq r2m_ix (pm_var 1) (pm_var 3) (fun _ _ => rfl)) (pm_var 4) (fun _ _ => rfl)) (pm_ix ix_seq r2m_ix (pm_ix ix_seq r2m_ix (pm_var 1) (pm_var 3) (fun _ _ => rfl)) (pm_var 3) (fun _ _ => rfl))) (pam_cons (pm_int) (pam_nil)))) (pam_nil))) (lenS len1)))) (psm_nil))
      (psm_one (psm_retIO (js := [2]) (pm_call (ok_over X) (hr.mono (by decide)) (by rfl) X.g_over X.F_over.kp X.b_over (pam_cons (pm_call (ok_times X) (hr.mono (by decide)) (by rfl) X.g_times X.F_times.kp X.b_times (pam_cons (pm_ix ix_seq r2m_ix (pm_var 2) (pm_var 3) (fun _ _ => rfl)) (pam_cons (pm_ix ix_seq r2m_ix (pm_ix ix_seq r2m_ix (pm_var 1) (pm_var 3) (fun _ _ => rfl)) (pm_var 4) (fun _ _ => rfl)) (pam_nil))) (lenS len1)) (pam_cons (pm_ix ix_seq r2m_ix (pm_ix ix_seq r2m_ix (pm_var 1) (pm_var 3) (fun _ _ => rfl)) (pm_var 3) (fun _ _ => rfl)) (pam_nil))) (lenS len1))))
set_option maxHeartbeats 4000000 in
theorem ok_round_back (X : Tx K mg) : FnOk P w K mg base CX0 1 X.a_round_back X.d_round_back ["behind", "last", "many"] (spT K 3 Q.round_back) := by
  have nd : (N_round_back).Nodup := sc_round_back.nd
  exact fn_ok (k := 0) (N := N_round_back) X.F_round_back sc_round_back fun cdv A outer s H E hr =>
    psm_cons (psm_set (i := 3) nd (pm_var 1))
      (psm_cons (psm_for PassesOwn.never rfl (pim_range1 (fz := true) (by rfl) X.z_range (pm_var 2)) (gm_name (i := 4) nd) (psm_one (psm_set (i := 3) nd (pm_dget (u1 hr.units) (pm_var 0) (pm_var 3) (fun _ _ => rfl)))))
      (psm_cons (psm_setF (i := 5) nd (pf_lst (paf_cons (pf_pure (pm_var 3)) (paf_nil))))
      (psm_cons (psm_while PassesOwn.never (ptm_cmp (op_neD hr.units) r2m_ne (pm_dget (u1 hr.units) (pm_var 0) (pm_ix ix_seq r2m_ix (pm_var 5) (pm_int) (fun _ _ => rfl)) (fun _ _ => rfl)) (pm_var 3) (nomark _)) (psm_one (psm_insert (pp_var 5) (pm_int) (pm_dget (u1 hr.units) (pm_var 0) (pm_ix ix_seq r2m_ix (pm_var 5) (pm_int) (fun _ _ => rfl)) (fun _ _ => rfl)))))
      (psm_one (psm_retV 5)))))
set_option maxHeartbeats 4000000 in
theorem ok_lowered (X : Tx K mg) : FnOk P w K mg base CX0 5 X.a_lowered X.d_lowered ["kind", "costs", "worths", "behind"] (spIO K 4 Q.lowered) := by
  have nd : (N_lowered).Nodup := sc_lowered.nd
  exact fn_okIO (js := [2, 3]) (k := 4) (N := N_lowered) X.F_lowered sc_lowered fun cdv A outer s H E hr =>
    psm_cons (psm_set (i := 4) nd (pm_non))
      (psm_cons (psm_for PassesOwn.never rfl (pim_range1 (fz := true) (by rfl) X.z_range (pm_callB call_lenA cm_len (by rfl) X.z_len bt_len (pam_cons (pm_var 1) (pam_nil)))) (gm_name (i := 5) nd) (psm_one (psm_for PassesOwn.never rfl (pim_range1 (fz := true) (by rfl) X.z_range (pm_callB call_lenA cm_len (by rfl) X.z_len bt_len (pam_cons (pm_var 1) (pam_nil)))) (gm_name (i := 6) nd) (psm_cons (psm_setIO (i := 7) nd (ok_step_worth X) (hr.mono (by decide)) (by rfl) X.g_step_worth X.F_step_worth.kp X.b_step_worth (pai_ex (pm_var 0) (pai_ex (pm_var 1) (pai_sl 2 (pai_ex (pm_var 5) (pai_ex (pm_var 6) (pai_nil)))))) rfl)
      (psm_one (psm_if (ptm_val (pm_call (ok_is_less X) (hr.mono (by decide)) (by rfl) X.g_is_less X.F_is_less.kp X.b_is_less (pam_cons (pm_var 7) (pam_cons (pm_ix ix_seq r2m_ix (pm_var 2) (pm_var 6) (fun _ _ => rfl)) (pam_nil))) (lenS len1))) (psm_cons (psm_setIx (pp_var 2) (pm_var 6) (pm_var 7))
      (psm_cons (psm_dput 3 (u1 hr.units) (pm_var 6) (pm_var 5))
      (psm_one (psm_set (i := 4) nd (pm_var 6))))) (psm_nil)))))))
      (psm_one (psm_retIO (js := [2, 3]) (pm_var 4))))
set_option maxHeartbeats 4000000 in
theorem ok_told_by (X : Tx K mg) : FnOk P w K mg base CX0 6 X.a_told_by X.d_told_by ["book", "kind"] (spT K 2 Q.told_by) := by
  have nd : (N_told_by).Nodup := sc_told_by.nd
  exact fn_ok (k := 5) (N := N_told_by) X.F_told_by sc_told_by fun cdv A outer s H E hr =>
    psm_cons (psm_set (i := 2) nd (pm_call (ok_costs_of X) (hr.mono (by decide)) (by rfl) X.g_costs_of X.F_costs_of.kp X.b_costs_of (pam_cons (pm_var 0) (pam_nil)) len1))
      (psm_cons (psm_if (ptm_cmp (op_eqD hr.units) r2m_eq (pm_var 1) (pm_str) (nomark _)) (psm_one (psm_ret (pm_call (ok_told_any X) (hr.mono (by decide)) (by rfl) X.g_told_any X.F_told_any.kp X.b_told_any (pam_cons (pm_var 2) (pam_nil)) len1))) (psm_nil))
      (psm_cons (psm_set (i := 3) nd (pm_callB call_lenA cm_len (by rfl) X.z_len bt_len (pam_cons (pm_var 0) (pam_nil))))
      (psm_cons (psm_setF (i := 4) nd (pf_rep (pm_lst (pam_cons (pm_tup (pam_cons (pm_int) (pam_cons (pm_int) (pam_nil)))) (pam_nil))) (pm_var 3)))
      (psm_cons (psm_setF (i := 5) nd (pf_dnew))
      (psm_cons (psm_for PassesOwn.never rfl (pim_range1 (fz := true) (by rfl) X.z_range (pm_var 3)) (gm_name (i := 6) nd) (psm_cons (psm_setIO (i := 7) nd (ok_lowered X) (hr.mono (by decide)) (by rfl) X.g_lowered X.F_lowered.kp X.b_lowered (pai_ex (pm_var 1) (pai_ex (pm_var 2) (pai_sl 4 (pai_sl 5 (pai_nil))))) rfl)
      (psm_one (psm_if (ptm_cmp op_isN r2m_isn (pm_var 7) (pm_non) (nomark _)) (psm_cons (psm_set (i := 8) nd (pm_op op_mulA r2m_mul (pm_lst (pam_cons (pm_tup (pam_cons (pm_int) (pam_cons (pm_int) (pam_nil)))) (pam_nil))) (pm_var 3)))
      (psm_cons (psm_if (ptm_cmp (op_eqD hr.units) r2m_eq (pm_var 1) (pm_str) (nomark _)) (psm_one (psm_setLc (i := 8) (own := [("k", 9)]) rfl nd (pim_range1 (fz := true) (by rfl) X.z_range (pm_var 3)) (blkOk_by (by rfl)) (fun _ _ _ _ _ => gm_name (i := 9) nd) (fun _ _ _ _ _ => ptsm_nil) (fun _ _ _ _ _ => pm_call (ok_over X) (hr.mono (by decide)) (by rfl) X.g_over X.F_over.kp X.b_over (pam_cons (pm_ix ix_seq r2m_ix (pm_var 4) (pm_var 9) (fun _ _ => rfl)) (pam_cons (pm_ix ix_seq r2m_ix (pm_ix ix_seq r2m_ix (pm_var 2) (pm_var 9) (fun _ _ => rfl)) (pm_var 9) (fun _ _ => rfl)) (pam_nil))) (lenS len1)) (sw_true rfl rfl rfl (by rfl)))) (psm_nil))
      (psm_frz 4 (psm_one (psm_ret (pm_tup (pam_cons (pm_str) (pam_cons (pm_tup (pam_cons (pm_var 4) (pam_cons (pm_var 8) (pam_nil)))) (pam_nil))))))))) (psm_nil)))))
      (psm_frz 5 (psm_one (psm_ret (pm_tup (pam_cons (pm_str) (pam_cons (pm_call (ok_round_back X) (hr.mono (by decide)) (by rfl) X.g_round_back X.F_round_back.kp X.b_round_back (pam_cons (pm_var 5) (pam_cons (pm_var 7) (pam_cons (pm_var 3) (pam_nil)))) (lenS (lenS len1))) (pam_nil))))))))))))
set_option maxHeartbeats 4000000 in
theorem ok_has_wish (X : Tx K mg) : FnOk P w K mg base CX0 7 X.a_has_wish X.d_has_wish ["book", "kind"] (spT K 2 Q.has_wish) := by
  have nd : (N_has_wish).Nodup := sc_has_wish.nd
  exact fn_ok (k := 6) (N := N_has_wish) X.F_has_wish sc_has_wish fun cdv A outer s H E hr =>
    psm_one (psm_ret (pm_cmp (op_eqD hr.units) r2m_eq (pm_ix ix_seq r2m_ix (pm_call (ok_told_by X) (hr.mono (by decide)) (by rfl) X.g_told_by X.F_told_by.kp X.b_told_by (pam_cons (pm_var 0) (pam_cons (pm_var 1) (pam_nil))) (lenS len1)) (pm_int) (fun _ _ => rfl)) (pm_str) (nomark _)))
set_option maxHeartbeats 4000000 in
theorem ok_walks (X : Tx K mg) : FnOk P w K mg base CX0 1 X.a_walks X.d_walks ["costs"] (spT K 1 Q.walks) := by
  have nd : (N_walks).Nodup := sc_walks.nd
  exact fn_ok (k := 0) (N := N_walks) X.F_walks sc_walks fun cdv A outer s H E hr =>
    psm_cons (psm_set (i := 1) nd (pm_callB call_lenA cm_len (by rfl) X.z_len bt_len (pam_cons (pm_var 0) (pam_nil))))
      (psm_cons (psm_setF (i := 2) nd (pf_lst (paf_cons (pf_pure (pm_op op_addA r2m_add (pm_lst (pam_cons (pm_int) (pam_nil))) (pm_op op_mulA r2m_mul (pm_lst (pam_cons (pm_non) (pam_nil))) (pm_op op_sub r2m_sub (pm_var 1) (pm_int))))) (paf_nil))))
      (psm_cons (psm_for PassesOwn.never rfl (pim_range1 (fz := true) (by rfl) X.z_range (pm_var 1)) (gm_name (i := 3) nd) (psm_cons (psm_setF (i := 4) nd (pf_lst (paf_nil)))
      (psm_cons (psm_for PassesOwn.never rfl (pim_range1 (fz := true) (by rfl) X.z_range (pm_var 1)) (gm_name (i := 5) nd) (psm_cons (psm_setF (i := 6) nd (pf_lst (paf_nil)))
      (psm_cons (psm_for PassesOwn.never rfl (pim_range1 (fz := true) (by rfl) X.z_range (pm_var 1)) (gm_name (i := 7) nd) (psm_one (psm_if (ptm_w (pwm_and (ptm_cmp (op_neD hr.units) r2m_ne (pm_var 7) (pm_var 5) (nomark _)) (pwm_and1 (ptm_cmp op_notN r2m_notn (pm_ix ix_seq r2m_ix (pm_ix ix_seq r2m_ix (pm_var 2) (pm_neg (pm_int)) (fun _ _ => rfl)) (pm_var 7) (fun _ _ => rfl)) (pm_non) (nomark _))))) (psm_one (psm_append (pp_var 6) (pm_op op_sub r2m_sub (pm_op op_addA r2m_add (pm_ix ix_seq r2m_ix (pm_ix ix_seq r2m_ix (pm_var 2) (pm_neg (pm_int)) (fun _ _ => rfl)) (pm_var 7) (fun _ _ => rfl)) (pm_ix ix_seq r2m_ix (pm_ix ix_seq r2m_ix (pm_var 0) (pm_var 7) (fun _ _ => rfl)) (pm_var 5) (fun _ _ => rfl))) (pm_ix ix_seq r2m_ix (pm_ix ix_seq r2m_ix (pm_var 0) (pm_var 7) (fun _ _ => rfl)) (pm_var 7) (fun _ _ => rfl))))) (psm_nil))))
      (psm_frz 6 (psm_one (psm_append (pp_var 4) (pm_ifExp (ptm_cmp (op_neD hr.units) r2m_ne (pm_var 6) (pm_lst (pam_nil)) (nomark _)) (pm_callB (cr_minA rfl hr.units) cm_min (by rfl) X.z_min bt_min (pam_cons (pm_var 6) (pam_nil))) (pm_non))))))))
      (psm_frz 4 (psm_one (psm_append (pp_var 2) (pm_var 4)))))))
      (psm_one (psm_retV 2))))
set_option maxHeartbeats 4000000 in
theorem ok_least_mean (X : Tx K mg) : FnOk P w K mg base CX0 3 X.a_least_mean X.d_least_mean ["costs"] (spT K 1 Q.least_mean) := by
  have nd : (N_least_mean).Nodup := sc_least_mean.nd
  exact fn_ok (k := 2) (N := N_least_mean) X.F_least_mean sc_least_mean fun cdv A outer s H E hr =>
    psm_cons (psm_set (i := 1) nd (pm_callB call_lenA cm_len (by rfl) X.z_len bt_len (pam_cons (pm_var 0) (pam_nil))))
      (psm_cons (psm_set (i := 2) nd (pm_call (ok_walks X) (hr.mono (by decide)) (by rfl) X.g_walks X.F_walks.kp X.b_walks (pam_cons (pm_var 0) (pam_nil)) len1))
      (psm_cons (psm_set (i := 3) nd (pm_non))
      (psm_cons (psm_for PassesOwn.never rfl (pim_range1 (fz := true) (by rfl) X.z_range (pm_var 1)) (gm_name (i := 4) nd) (psm_one (psm_if (ptm_cmp op_notN r2m_notn (pm_ix ix_seq r2m_ix (pm_ix ix_seq r2m_ix (pm_var 2) (pm_var 1) (fun _ _ => rfl)) (pm_var 4) (fun _ _ => rfl)) (pm_non) (nomark _)) (psm_cons (psm_set (i := 5) nd (pm_non))
      (psm_cons (psm_for PassesOwn.never rfl (pim_range1 (fz := true) (by rfl) X.z_range (pm_var 1)) (gm_name (i := 6) nd) (psm_one (psm_if (ptm_cmp op_notN r2m_notn (pm_ix ix_seq r2m_ix (pm_ix ix_seq r2m_ix (pm_var 2) (pm_var 6) (fun _ _ => rfl)) (pm_var 4) (fun _ _ => rfl)) (pm_non) (nomark _)) (psm_cons (psm_set (i := 7) nd (pm_call (ok_fraction X) (hr.mono (by decide)) (by rfl) X.g_fraction X.F_fraction.kp X.b_fraction (pam_cons (pm_op op_sub r2m_sub (pm_ix ix_seq r2m_ix (pm_ix ix_seq r2m_ix (pm_var 2) (pm_var 1) (fun _ _ => rfl)) (pm_var 4) (fun _ _ => rfl)) (pm_ix ix_seq r2m_ix (pm_ix ix_seq r2m_ix (pm_var 2) (pm_var 6) (fun _ _ => rfl)) (pm_var 4) (fun _ _ => rfl))) (pam_cons (pm_op op_sub r2m_sub (pm_var 1) (pm_var 6)) (pam_nil))) (lenS len1)))
      (psm_one (psm_if (ptm_w (pwm_or (ptm_cmp op_isN r2m_isn (pm_var 5) (pm_non) (nomark _)) (pwm_or1 (ptm_val (pm_call (ok_is_less X) (hr.mono (by decide)) (by rfl) X.g_is_less X.F_is_less.kp X.b_is_less (pam_cons (pm_var 5) (pam_cons (pm_var 7) (pam_nil))) (lenS len1)))))) (psm_one (psm_set (i := 5) nd (pm_var 7))) (psm_nil)))) (psm_nil))))
      (psm_one (psm_if (ptm_w (pwm_or (ptm_cmp op_isN r2m_isn (pm_var 3) (pm_non) (nomark _)) (pwm_or1 (ptm_val (pm_call (ok_is_less X) (hr.mono (by decide)) (by rfl) X.g_is_less X.F_is_less.kp X.b_is_less (pam_cons (pm_var 5) (pam_cons (pm_var 3) (pam_nil))) (lenS len1)))))) (psm_one (psm_set (i := 3) nd (pm_var 5))) (psm_nil))))) (psm_nil))))
      (psm_one (psm_retV 3)))))
set_option maxHeartbeats 4000000 in
theorem ok_lifted (X : Tx K mg) : FnOk P w K mg base CX0 4 X.a_lifted X.d_lifted ["costs", "mean"] (spT K 2 Q.lifted) := by
  have nd : (N_lifted).Nodup := sc_lifted.nd
  exact fn_ok (k := 3) (N := N_lifted) X.F_lifted sc_lifted fun cdv A outer s H E hr =>
    psm_cons (psm_set (i := 2) nd (pm_callB call_lenA cm_len (by rfl) X.z_len bt_len (pam_cons (pm_var 0) (pam_nil))))
      (psm_cons (psm_setF (i := 3) nd (pf_rep (pm_lst (pam_cons (pm_tup (pam_cons (pm_int) (pam_cons (pm_int) (pam_nil)))) (pam_nil))) (pm_var 2)))
      (psm_cons (psm_for PassesOwn.never rfl (pim_range1 (fz := true) (by rfl) X.z_range (pm_var 2)) (gm_name (i := 4) nd) (psm_one (psm_for PassesOwn.never rfl (pim_range1 (fz := true) (by rfl) X.z_range (pm_var 2)) (gm_name (i := 5) nd) (psm_one (psm_for PassesOwn.never rfl (pim_range1 (fz := true) (by rfl) X.z_range (pm_var 2)) (gm_name (i := 6) nd) (psm_cons (psm_set (i := 7) nd (pm_call (ok_minus X) (hr.mono (by decide)) (by rfl) X.g_minus X.F_minus.kp X.b_minus (pam_cons (pm_call (ok_plus X) (hr.mono (by decide)) (by rfl) X.g_plus X.F_plus.kp X.b_plus (pam_cons (pm_ix ix_seq r2m_ix (pm_var 3) (pm_var 5) (fun _ _ => rfl)) (pam_cons (pm_tup (pam_cons (pm_op op_sub r2m_sub (pm_ix ix_seq r2m_ix (pm_ix ix_seq r2m_ix (pm_var 0) (pm_var 5) (fun _ _ => rfl)) (pm_var 6) (fun _ _ => rfl)) (pm_ix ix_seq r2m_ix (pm_ix ix_seq r2m_ix (pm_var 0) (pm_var 5) (fun _ _ => rfl)) (pm_var 5) (fun _ _ => rfl))) (pam_cons (pm_int) (pam_nil)))) (pam_nil))) (lenS len1)) (pam_cons (pm_var 1) (pam_nil))) (lenS len1)))
      (psm_one (psm_if (ptm_w (pwm_and (ptm_cmp (op_neD hr.units) r2m_ne (pm_var 5) (pm_var 6) (nomark _)) (pwm_and1 (ptm_val (pm_call (ok_is_less X) (hr.mono (by decide)) (by rfl) X.g_is_less X.F_is_less.kp X.b_is_less (pam_cons (pm_var 7) (pam_cons (pm_ix ix_seq r2m_ix (pm_var 3) (pm_var 6) (fun _ _ => rfl)) (pam_nil))) (lenS len1)))))) (psm_one (psm_setIx (pp_var 3) (pm_var 6) (pm_var 7))) (psm_nil)))))))))
      (psm_one (psm_retV 3))))
set_option maxHeartbeats 4000000 in
theorem ok_dearest (X : Tx K mg) : FnOk P w K mg base CX0 5 X.a_dearest X.d_dearest ["book"] (spT K 1 Q.dearest) := by
  have nd : (N_dearest).Nodup := sc_dearest.nd
  exact fn_ok (k := 4) (N := N_dearest) X.F_dearest sc_dearest fun cdv A outer s H E hr =>
    psm_cons (psm_if (ptm_cmp op_lt r2m_lt (pm_callB call_lenA cm_len (by rfl) X.z_len bt_len (pam_cons (pm_var 0) (pam_nil))) (pm_int) (nomark _)) (psm_one (psm_ret (pm_non))) (psm_nil))
      (psm_cons (psm_set (i := 1) nd (pm_call (ok_costs_of X) (hr.mono (by decide)) (by rfl) X.g_costs_of X.F_costs_of.kp X.b_costs_of (pam_cons (pm_var 0) (pam_nil)) len1))
      (psm_cons (psm_set (i := 2) nd (pm_call (ok_least_mean X) (hr.mono (by decide)) (by rfl) X.g_least_mean X.F_least_mean.kp X.b_least_mean (pam_cons (pm_var 1) (pam_nil)) len1))
      (psm_cons (psm_set (i := 3) nd (pm_call (ok_lifted X) (hr.mono (by decide)) (by rfl) X.g_lifted X.F_lifted.kp X.b_lifted (pam_cons (pm_var 1) (pam_cons (pm_var 2) (pam_nil))) (lenS len1)))
      (psm_cons (psm_setF (i := 4) nd (pf_lst (paf_nil)))
      (psm_cons (psm_for PassesOwn.never rfl (pim_range1 (fz := true) (by rfl) X.z_range (pm_callB call_lenA cm_len (by rfl) X.z_len bt_len (pam_cons (pm_var 0) (pam_nil)))) (gm_name (i := 5) nd) (psm_cons (psm_setF (i := 6) nd (pf_lst (paf_nil)))
      (psm_cons (psm_for PassesOwn.never rfl (pim_range1 (fz := true) (by rfl) X.z_range (pm_callB call_lenA cm_len (by rfl) X.z_len bt_len (pam_cons (pm_var 0) (pam_nil)))) (gm_name (i := 7) nd) (psm_cons (psm_set (i := 8) nd (pm_call (ok_minus X) (hr.mono (by decide)) (by rfl) X.g_minus X.F_minus.kp X.b_minus (pam_cons (pm_call (ok_plus X) (hr.mono (by decide)) (by rfl) X.g_plus X.F_plus.kp X.b_plus (pam_cons (pm_ix ix_seq r2m_ix (pm_var 3) (pm_var 5) (fun _ _ => rfl)) (pam_cons (pm_tup (pam_cons (pm_op op_sub r2m_sub (pm_ix ix_seq r2m_ix (pm_ix ix_seq r2m_ix (pm_var 1) (pm_var 5) (fun _ _ => rfl)) (pm_var 7) (fun _ _ => rfl)) (pm_ix ix_seq r2m_ix (pm_ix ix_seq r2m_ix (pm_var 1) (pm_var 5) (fun _ _ => rfl)) (pm_var 5) (fun _ _ => rfl))) (pam_cons (pm_int) (pam_nil)))) (pam_nil))) (lenS len1)) (pam_cons (pm_var 2) (pam_nil))) (lenS len1)))
      (psm_one (psm_append (pp_var 6) (pm_and (pm_cmp (op_neD hr.units) r2m_ne (pm_var 5) (pm_var 7) (nomark _)) (pm_one (pm_cmp (op_eqD hr.units) r2m_eq (pm_var 8) (pm_ix ix_seq r2m_ix (pm_var 3) (pm_var 7) (fun _ _ => rfl)) (nomark _))))))))
      (psm_frz 6 (psm_one (psm_append (pp_var 4) (pm_var 6)))))))
      (psm_frz 4 (psm_cons (psm_for PassesOwn.never rfl (pim_range1 (fz := true) (by rfl) X.z_range (pm_callB call_lenA cm_len (by rfl) X.z_len bt_len (pam_cons (pm_var 0) (pam_nil)))) (gm_name (i := 5) nd) (psm_one (psm_for PassesOwn.never rfl (pim_range1 (fz := true) (by rfl) X.z_range (pm_callB call_lenA cm_len (by rfl) X.z_len bt_len (pam_cons (pm_var 0) (pam_nil)))) (gm_name (i := 7) nd) (psm_one (psm_if (ptm_val (pm_ix ix_seq r2m_ix (pm_ix ix_seq r2m_ix (pm_var 4) (pm_var 5) (fun _ _ => rfl)) (pm_var 7) (fun _ _ => rfl))) (psm_cons (psm_set (i := 9) nd (pm_call (ok_way_between X) (hr.mono (by decide)) (by rfl) X.g_way_between X.F_way_between.kp X.b_way_between (pam_cons (pm_var 4) (pam_cons (pm_var 7) (pam_cons (pm_var 5) (pam_nil)))) (lenS (lenS len1))))
      (psm_one (psm_if (ptm_cmp op_notN r2m_notn (pm_var 9) (pm_non) (nomark _)) (psm_one (psm_ret (pm_tup (pam_cons (pm_call (ok_over X) (hr.mono (by decide)) (by rfl) X.g_over X.F_over.kp X.b_over (pam_cons (pm_var 2) (pam_cons (pm_op op_sub r2m_sub (pm_int) (pm_int)) (pam_nil))) (lenS len1)) (pam_cons (pm_var 9) (pam_cons (pm_var 3) (pam_nil))))))) (psm_nil)))) (psm_nil))))))
      (psm_one (psm_ret (pm_non))))))))))
set_option maxHeartbeats 4000000 in
theorem ok_need_buying (X : Tx K mg) : FnOk P w K mg base CX0 2 X.a_need_buying X.d_need_buying ["book", "buying"] (spT K 2 Q.need_buying) := by
  have nd : (N_need_buying).Nodup := sc_need_buying.nd
  exact fn_ok (k := 1) (N := N_need_buying) X.F_need_buying sc_need_buying fun cdv A outer s H E hr =>
    psm_one (psm_if (ptm_w (pwm_or (ptm_not (ptm_val (pm_call (ok_is_buying X) (hr.mono (by decide)) (by rfl) X.g_is_buying X.F_is_buying.kp X.b_is_buying (pam_cons (pm_var 1) (pam_nil)) len1))) (pwm_or1 (ptm_cmp (op_neD hr.units) r2m_ne (pm_callB call_lenA cm_len (by rfl) X.z_len bt_len (pam_cons (pm_ix ix_seq r2m_ix (pm_var 1) (pm_int) (fun _ _ => rfl)) (pam_nil))) (pm_callB call_lenA cm_len (by rfl) X.z_len bt_len (pam_cons (pm_ix ix_seq r2m_ix (pm_ix ix_seq r2m_ix (pm_var 0) (pm_int) (fun _ _ => rfl)) (pm_int) (fun _ _ => rfl)) (pam_nil))) (nomark _))))) (psm_one (psm_never)) (psm_nil))
set_option maxHeartbeats 4000000 in
theorem ok_may_come (X : Tx K mg) : FnOk P w K mg base CX0 8 X.a_may_come X.d_may_come ["book", "kind", "buying"] (spT K 3 Q.may_come) := by
  have nd : (N_may_come).Nodup := sc_may_come.nd
  exact fn_ok (k := 7) (N := N_may_come) X.F_may_come sc_may_come fun cdv A outer s H E hr =>
    psm_cons (psm_expr (pm_call (ok_need_buying X) (hr.mono (by decide)) (by rfl) X.g_need_buying X.F_need_buying.kp X.b_need_buying (pam_cons (pm_var 0) (pam_cons (pm_var 2) (pam_nil))) (lenS len1)))
      (psm_one (psm_ret (pm_call (ok_has_wish X) (hr.mono (by decide)) (by rfl) X.g_has_wish X.F_has_wish.kp X.b_has_wish (pam_cons (pm_op op_addA r2m_add (pm_var 0) (pm_lst (pam_cons (pm_var 2) (pam_nil)))) (pam_cons (pm_var 1) (pam_nil))) (lenS len1))))
set_option maxHeartbeats 4000000 in
theorem ok__law_cell_at (X : Tx K mg) : FnOk P w K mg base CX0 1 X.a__law_cell_at X.d__law_cell_at ["script", "k"] (spT K 2 Q.law_cell_at) := by
  have nd : (N__law_cell_at).Nodup := sc__law_cell_at.nd
  exact fn_ok (k := 0) (N := N__law_cell_at) X.F__law_cell_at sc__law_cell_at fun cdv A outer s H E hr =>
    psm_cons (psm_if (ptm_cmp op_lt r2m_lt (pm_var 1) (pm_callB call_lenA cm_len (by rfl) X.z_len bt_len (pam_cons (pm_var 0) (pam_nil))) (nomark _)) (psm_one (psm_ret (pm_ix ix_seq r2m_ix (pm_var 0) (pm_var 1) (fun _ _ => rfl)))) (psm_nil))
      (psm_one (psm_ret (pm_int)))
set_option maxHeartbeats 4000000 in
theorem ok__law_draws (X : Tx K mg) : FnOk P w K mg base CX0 1 X.a__law_draws X.d__law_draws ["cell", "many", "base"] (spT K 3 Q.law_draws) := by
  have nd : (N__law_draws).Nodup := sc__law_draws.nd
  exact fn_ok (k := 0) (N := N__law_draws) X.F__law_draws sc__law_draws fun cdv A outer s H E hr =>
    psm_cons (psm_setF (i := 3) nd (pf_lst (paf_nil)))
      (psm_cons (psm_set (i := 4) nd (pm_op op_mulA r2m_mul (pm_var 0) (pm_callTy call_intA cm_int (by rfl) X.z_int bt_int (pam_cons (pm_cmp op_ge r2m_ge (pm_var 0) (pm_op op_pow r2m_pow (pm_int) (pm_int)) (nomark _)) (pam_nil)))))
      (psm_cons (psm_set (i := 5) nd (pm_op op_modN r2m_mod (pm_var 0) (pm_int)))
      (psm_cons (psm_for PassesOwn.never rfl (pim_range1 (fz := true) (by rfl) X.z_range (pm_op op_addA r2m_add (pm_var 1) (pm_int))) (gm_name (i := 6) nd) (psm_cons (psm_set (i := 5) nd (pm_op op_modN r2m_mod (pm_op op_addA r2m_add (pm_op op_addA r2m_add (pm_op op_addA r2m_add (pm_op op_mulA r2m_mul (pm_var 5) (pm_var 5)) (pm_op op_mulA r2m_mul (pm_int) (pm_var 5))) (pm_var 6)) (pm_int)) (pm_int)))
      (psm_one (psm_if (ptm_w (pwm_and (ptm_cmp op_gt r2m_gt (pm_var 6) (pm_int) (nomark _)) (pwm_and1 (ptm_cmp op_gt r2m_gt (pm_var 4) (pm_int) (nomark _))))) (psm_cons (psm_append (pp_var 3) (pm_op op_modN r2m_mod (pm_var 4) (pm_var 2)))
      (psm_one (psm_set (i := 4) nd (pm_op op_fdivB r2m_fdiv (pm_var 4) (pm_var 2))))) (psm_one (psm_if (ptm_cmp op_gt r2m_gt (pm_var 6) (pm_int) (nomark _)) (psm_one (psm_append (pp_var 3) (pm_op op_modN r2m_mod (pm_op op_fdivB r2m_fdiv (pm_var 5) (pm_int)) (pm_var 2)))) (psm_nil)))))))
      (psm_one (psm_retV 3)))))
set_option maxHeartbeats 4000000 in
theorem ok__law_best_good (X : Tx K mg) : FnOk P w K mg base CX0 1 X.a__law_best_good X.d__law_best_good ["prices", "weights", "amount"] (spT K 3 Q.law_best_good) := by
  have nd : (N__law_best_good).Nodup := sc__law_best_good.nd
  exact fn_ok (k := 0) (N := N__law_best_good) X.F__law_best_good sc__law_best_good fun cdv A outer s H E hr =>
    psm_cons (psm_set (i := 3) nd (pm_int))
      (psm_cons (psm_for PassesOwn.never rfl (pim_range1 (fz := true) (by rfl) X.z_range (pm_callB call_lenA cm_len (by rfl) X.z_len bt_len (pam_cons (pm_var 0) (pam_nil)))) (gm_name (i := 4) nd) (psm_cons (psm_set (i := 5) nd (pm_op op_mulA r2m_mul (pm_op op_addA r2m_add (pm_int) (pm_op op_modN r2m_mod (pm_ix ix_seq r2m_ix (pm_var 1) (pm_var 4) (fun _ _ => rfl)) (pm_int))) (pm_ix ix_seq r2m_ix (pm_var 0) (pm_var 3) (fun _ _ => rfl))))
      (psm_one (psm_if (ptm_cmp op_gt r2m_gt (pm_var 5) (pm_op op_mulA r2m_mul (pm_op op_addA r2m_add (pm_int) (pm_op op_modN r2m_mod (pm_ix ix_seq r2m_ix (pm_var 1) (pm_var 3) (fun _ _ => rfl)) (pm_int))) (pm_ix ix_seq r2m_ix (pm_var 0) (pm_var 4) (fun _ _ => rfl))) (nomark _)) (psm_one (psm_set (i := 3) nd (pm_var 4))) (psm_nil)))))
      (psm_one (psm_ret (pm_lc (own := [("k", 4)]) rfl nd (pim_range1 (fz := true) (by rfl) X.z_range (pm_callB call_lenA cm_len (by rfl) X.z_len bt_len (pam_cons (pm_var 0) (pam_nil)))) (blkOk_by (by rfl)) (fun _ _ _ _ _ => gm_name (i := 4) nd) (fun _ _ _ _ _ => ptsm_nil) (fun _ _ _ _ _ => pm_op op_mulA r2m_mul (pm_var 2) (pm_callTy call_intA cm_int (by rfl) X.z_int bt_int (pam_cons (pm_cmp (op_eqD hr.units) r2m_eq (pm_var 4) (pm_var 3) (nomark _)) (pam_nil))))))))
set_option maxHeartbeats 4000000 in
theorem ok__law_a_book (X : Tx K mg) : FnOk P w K mg base CX0 2 X.a__law_a_book X.d__law_a_book ["script", "at", "most"] (spT K 3 Q.law_a_book) := by
  have nd : (N__law_a_book).Nodup := sc__law_a_book.nd
  exact fn_ok (k := 1) (N := N__law_a_book) X.F__law_a_book sc__law_a_book fun cdv A outer s H E hr =>
    psm_cons (psm_set (i := 3) nd (pm_call (ok__law_draws X) (hr.mono (by decide)) (by rfl) X.g__law_draws X.F__law_draws.kp X.b__law_draws (pam_cons (pm_call (ok__law_cell_at X) (hr.mono (by decide)) (by rfl) X.g__law_cell_at X.F__law_cell_at.kp X.b__law_cell_at (pam_cons (pm_var 0) (pam_cons (pm_var 1) (pam_nil))) (lenS len1)) (pam_cons (pm_int) (pam_cons (pm_op op_pow r2m_pow (pm_int) (pm_int)) (pam_nil)))) (lenS (lenS len1))))
      (psm_cons (psm_set (i := 4) nd (pm_ix ix_seq r2m_ix (pm_lst (pam_cons (pm_op op_addA r2m_add (pm_int) (pm_op op_modN r2m_mod (pm_ix ix_seq r2m_ix (pm_var 3) (pm_int) (fun _ _ => rfl)) (pm_int))) (pam_cons (pm_int) (pam_cons (pm_op op_addA r2m_add (pm_int) (pm_op op_modN r2m_mod (pm_ix ix_seq r2m_ix (pm_var 3) (pm_int) (fun _ _ => rfl)) (pm_int))) (pam_nil))))) (pm_op op_modN r2m_mod (pm_ix ix_seq r2m_ix (pm_var 3) (pm_int) (fun _ _ => rfl)) (pm_int)) (fun _ _ => rfl)))
      (psm_cons (psm_set (i := 5) nd (pm_ix ix_seq r2m_ix (pm_lst (pam_cons (pm_op op_addA r2m_add (pm_int) (pm_op op_modN r2m_mod (pm_ix ix_seq r2m_ix (pm_var 3) (pm_int) (fun _ _ => rfl)) (pm_var 2))) (pam_cons (pm_op op_addA r2m_add (pm_int) (pm_op op_modN r2m_mod (pm_ix ix_seq r2m_ix (pm_var 3) (pm_int) (fun _ _ => rfl)) (pm_callB (cr_minA rfl hr.units) cm_min (by rfl) X.z_min bt_min (pam_cons (pm_var 2) (pam_cons (pm_int) (pam_nil)))))) (pam_nil)))) (pm_op op_fdivB r2m_fdiv (pm_op op_modN r2m_mod (pm_ix ix_seq r2m_ix (pm_var 3) (pm_int) (fun _ _ => rfl)) (pm_int)) (pm_int)) (fun _ _ => rfl)))
      (psm_cons (psm_set (i := 6) nd (pm_ix ix_seq r2m_ix (pm_lst (pam_cons (pm_int) (pam_cons (pm_int) (pam_cons (pm_int) (pam_cons (pm_op op_pow r2m_pow (pm_int) (pm_int)) (pam_nil)))))) (pm_op op_modN r2m_mod (pm_ix ix_seq r2m_ix (pm_var 3) (pm_int) (fun _ _ => rfl)) (pm_int)) (fun _ _ => rfl)))
      (psm_cons (psm_set (i := 7) nd (pm_op op_modN r2m_mod (pm_ix ix_seq r2m_ix (pm_var 3) (pm_int) (fun _ _ => rfl)) (pm_int)))
      (psm_cons (psm_setF (i := 8) nd (pf_lst (paf_nil)))
      (psm_cons (psm_for PassesOwn.never rfl (pim_range1 (fz := true) (by rfl) X.z_range (pm_var 5)) (gm_name (i := 9) nd) (psm_cons (psm_set (i := 10) nd (pm_call (ok__law_draws X) (hr.mono (by decide)) (by rfl) X.g__law_draws X.F__law_draws.kp X.b__law_draws (pam_cons (pm_op op_addA r2m_add (pm_call (ok__law_cell_at X) (hr.mono (by decide)) (by rfl) X.g__law_cell_at X.F__law_cell_at.kp X.b__law_cell_at (pam_cons (pm_var 0) (pam_cons (pm_op op_addA r2m_add (pm_var 1) (pm_int)) (pam_nil))) (lenS len1)) (pm_op op_mulA r2m_mul (pm_var 9) (pm_op op_addA r2m_add (pm_ix ix_seq r2m_ix (pm_var 3) (pm_int) (fun _ _ => rfl)) (pm_int)))) (pam_cons (pm_int) (pam_cons (pm_op op_pow r2m_pow (pm_int) (pm_int)) (pam_nil)))) (lenS (lenS len1))))
      (psm_cons (psm_setLc (i := 11) (own := [("pick", 15)]) rfl nd (pim_seqB (pm_slice (pm_var 10) (pom_none) (pom_some (pm_var 4)))) (blkOk_by (by rfl)) (fun _ _ _ _ _ => gm_name (i := 15) nd) (fun _ _ _ _ _ => ptsm_nil) (fun _ _ _ _ _ => pm_op op_addA r2m_add (pm_int) (pm_op op_modN r2m_mod (pm_var 15) (pm_var 6))) (sw_true rfl rfl rfl (by rfl)))
      (psm_cons (psm_set (i := 12) nd (pm_slice (pm_var 10) (pom_some (pm_int)) (pom_some (pm_op op_addA r2m_add (pm_int) (pm_var 4)))))
      (psm_cons (psm_setLc (i := 13) (own := [("pick", 15)]) rfl nd (pim_seqB (pm_var 12)) (blkOk_by (by rfl)) (fun _ _ _ _ _ => gm_name (i := 15) nd) (fun _ _ _ _ _ => ptsm_nil) (fun _ _ _ _ _ => pm_op op_mulA r2m_mul (pm_op op_modN r2m_mod (pm_var 15) (pm_op op_addA r2m_add (pm_var 6) (pm_int))) (pm_callTy call_intA cm_int (by rfl) X.z_int bt_int (pam_cons (pm_cmp op_gt r2m_gt (pm_op op_modN r2m_mod (pm_var 15) (pm_int)) (pm_int) (nomark _)) (pam_nil)))) (sw_true rfl rfl rfl (by rfl)))
      (psm_cons (psm_if (ptm_cmp (op_eqD hr.units) r2m_eq (pm_var 7) (pm_int) (nomark _)) (psm_one (psm_set (i := 13) nd (pm_call (ok__law_best_good X) (hr.mono (by decide)) (by rfl) X.g__law_best_good X.F__law_best_good.kp X.b__law_best_good (pam_cons (pm_var 11) (pam_cons (pm_slice (pm_var 3) (pom_some (pm_int)) (pom_some (pm_op op_addA r2m_add (pm_int) (pm_var 4)))) (pam_cons (pm_op op_addA r2m_add (pm_int) (pm_op op_modN r2m_mod (pm_ix ix_seq r2m_ix (pm_var 10) (pm_int) (fun _ _ => rfl)) (pm_var 6))) (pam_nil)))) (lenS (lenS len1))))) (psm_nil))
      (psm_cons (psm_if (ptm_cmp (op_eqD hr.units) r2m_eq (pm_var 7) (pm_int) (nomark _)) (psm_one (psm_setLc (i := 13) (own := [("price", 16)]) rfl nd (pim_seqB (pm_var 11)) (blkOk_by (by rfl)) (fun _ _ _ _ _ => gm_name (i := 16) nd) (fun _ _ _ _ _ => ptsm_nil) (fun _ _ _ _ _ => pm_op op_sub r2m_sub (pm_op op_addA r2m_add (pm_var 6) (pm_int)) (pm_var 16)) (sw_true rfl rfl rfl (by rfl)))) (psm_nil))
      (psm_cons (psm_if (ptm_cmp (op_eqD hr.units) r2m_eq (pm_op op_modN r2m_mod (pm_ix ix_seq r2m_ix (pm_var 10) (pm_int) (fun _ _ => rfl)) (pm_int)) (pm_int) (nomark _)) (psm_one (psm_setLc (i := 13) (own := [("pick", 15)]) rfl nd (pim_seqB (pm_slice (pm_var 10) (pom_some (pm_int)) (pom_some (pm_op op_addA r2m_add (pm_int) (pm_var 4))))) (blkOk_by (by rfl)) (fun _ _ _ _ _ => gm_name (i := 15) nd) (fun _ _ _ _ _ => ptsm_nil) (fun _ _ _ _ _ => pm_op op_modN r2m_mod (pm_var 15) (pm_var 6)) (sw_true rfl rfl rfl (by rfl)))) (psm_nil))
      (psm_cons (psm_setLcF (i := 13) (own := [("amount", 17)]) rfl nd (pim_seqB (pm_var 13)) (blkOk_by (by rfl)) (fun _ _ _ _ _ => gm_name (i := 17) nd) (fun _ _ _ _ _ => ptsm_nil) (fun _ _ _ _ _ => pm_callB (cr_minA rfl hr.units) cm_min (by rfl) X.z_min bt_min (pam_cons (pm_op op_pow r2m_pow (pm_int) (pm_int)) (pam_cons (pm_var 17) (pam_nil)))) (sw_true rfl rfl rfl (by rfl)))
      (psm_cons (psm_if (ptm_cmp (op_eqD hr.units) r2m_eq (pm_callB (cr_maxA rfl hr.units) cm_max (by rfl) X.z_max bt_max (pam_cons (pm_var 13) (pam_nil))) (pm_int) (nomark _)) (psm_one (psm_setIx (pp_var 13) (pm_op op_modN r2m_mod (pm_ix ix_seq r2m_ix (pm_var 10) (pm_int) (fun _ _ => rfl)) (pm_var 4)) (pm_int))) (psm_nil))
      (psm_frz 13 (psm_cons (psm_set (i := 14) nd (pm_tup (pam_cons (pm_callTy call_tuple_of cm_tuple (by rfl) X.z_tuple bt_tuple (pam_cons (pm_var 11) (pam_nil))) (pam_cons (pm_callTy call_tuple_of cm_tuple (by rfl) X.z_tuple bt_tuple (pam_cons (pm_var 13) (pam_nil))) (pam_nil)))))
      (psm_cons (psm_if (ptm_w (pwm_and (ptm_cmp (op_neD hr.units) r2m_ne (pm_var 8) (pm_lst (pam_nil)) (nomark _)) (pwm_and1 (ptm_cmp (op_eqD hr.units) r2m_eq (pm_op op_modN r2m_mod (pm_op op_fdivB r2m_fdiv (pm_ix ix_seq r2m_ix (pm_var 10) (pm_int) (fun _ _ => rfl)) (pm_int)) (pm_int)) (pm_int) (nomark _))))) (psm_one (psm_set (i := 14) nd (pm_tup (pam_cons (pm_ix ix_seq r2m_ix (pm_var 14) (pm_int) (fun _ _ => rfl)) (pam_cons (pm_ix ix_seq r2m_ix (pm_ix ix_seq r2m_ix (pm_var 8) (pm_op op_modN r2m_mod (pm_op op_fdivB r2m_fdiv (pm_ix ix_seq r2m_ix (pm_var 10) (pm_int) (fun _ _ => rfl)) (pm_int)) (pm_callB call_lenA cm_len (by rfl) X.z_len bt_len (pam_cons (pm_var 8) (pam_nil)))) (fun _ _ => rfl)) (pm_int) (fun _ _ => rfl)) (pam_nil)))))) (psm_nil))
      (psm_one (psm_append (pp_var 8) (pm_var 14))))))))))))))))
      (psm_one (psm_retV 8))))))))
set_option maxHeartbeats 4000000 in
theorem ok_law (X : Tx K mg) : FnOk P w K mg base CX0 9 X.a_law X.d_law ["script"] (spT K 1 Q.k32_law) := by
  have nd : (N_law).Nodup := sc_law.nd
  exact fn_ok (k := 8) (N := N_law) X.F_law sc_law fun cdv A outer s H E hr =>
    psm_cons (psm_set (i := 1) nd (pm_call (ok__law_a_book X) (hr.mono (by decide)) (by rfl) X.g__law_a_book X.F__law_a_book.kp X.b__law_a_book (pam_cons (pm_var 0) (pam_cons (pm_int) (pam_cons (pm_int) (pam_nil)))) (lenS (lenS len1))))
      (psm_cons (psm_set (i := 2) nd (pm_call (ok__law_draws X) (hr.mono (by decide)) (by rfl) X.g__law_draws X.F__law_draws.kp X.b__law_draws (pam_cons (pm_call (ok__law_cell_at X) (hr.mono (by decide)) (by rfl) X.g__law_cell_at X.F__law_cell_at.kp X.b__law_cell_at (pam_cons (pm_var 0) (pam_cons (pm_int) (pam_nil))) (lenS len1)) (pam_cons (pm_int) (pam_cons (pm_int) (pam_nil)))) (lenS (lenS len1))))
      (psm_cons (psm_set (i := 3) nd (pm_callB (cr_maxA rfl hr.units) cm_max (by rfl) X.z_max bt_max (pam_cons (pm_lc (own := [("prices", 6), ("amounts", 7)]) rfl nd (pim_seqB (pm_var 1)) (blkOk_by (by rfl)) (fun _ _ _ _ _ => gm_tup rfl (gsm_cons (gm_name (i := 6) nd) (gsm_cons (gm_name (i := 7) nd) (gsm_nil))) (gl_cons (gl_cons gl_nil))) (fun _ _ _ _ _ => ptsm_nil) (fun _ _ _ _ _ => pm_callB (cr_maxA rfl hr.units) cm_max (by rfl) X.z_max bt_max (pam_cons (pm_var 7) (pam_nil)))) (pam_nil))))
      (psm_cons (psm_setLc (i := 4) (own := [("pick", 13)]) rfl nd (pim_seqB (pm_slice (pm_var 2) (pom_none) (pom_some (pm_int)))) (blkOk_by (by rfl)) (fun _ _ _ _ _ => gm_name (i := 13) nd) (fun _ _ _ _ _ => ptsm_nil) (fun _ _ _ _ _ => pm_op op_mulA r2m_mul (pm_op op_modN r2m_mod (pm_var 13) (pm_int)) (pm_callTy call_intA cm_int (by rfl) X.z_int bt_int (pam_cons (pm_cmp op_le r2m_le (pm_op op_addA r2m_add (pm_var 3) (pm_int)) (pm_op op_pow r2m_pow (pm_int) (pm_int)) (nomark _)) (pam_nil)))) (sw_true rfl rfl rfl (by rfl)))
      (psm_cons (psm_setF (i := 5) nd (pf_lst (paf_nil)))
      (psm_cons (psm_for PassesOwn.never rfl (pim_seq (pm_var 1)) (gm_tup rfl (gsm_cons (gm_name (i := 6) nd) (gsm_cons (gm_name (i := 7) nd) (gsm_nil))) (gl_cons (gl_cons gl_nil))) (psm_cons (psm_setLc (i := 8) (own := [("one", 11), ("other", 14)]) rfl nd (pim_zipM (by rfl) X.z_zip (pm_var 7) (pm_var 4)) (blkOk_by (by rfl)) (fun _ _ _ _ _ => gm_tup rfl (gsm_cons (gm_name (i := 11) nd) (gsm_cons (gm_name (i := 14) nd) (gsm_nil))) (gl_cons (gl_cons gl_nil))) (fun _ _ _ _ _ => ptsm_nil) (fun _ _ _ _ _ => pm_op op_addA r2m_add (pm_var 11) (pm_var 14)) (sw_true rfl rfl rfl (by rfl)))
      (psm_one (psm_append (pp_var 5) (pm_tup (pam_cons (pm_var 6) (pam_cons (pm_callTy call_tuple_of cm_tuple (by rfl) X.z_tuple bt_tuple (pam_cons (pm_var 8) (pam_nil))) (pam_nil))))))))
      (psm_frz 5 (psm_cons (psm_if (ptm_cmp (op_neD hr.units) r2m_ne (pm_call (ok_has_wish X) (hr.mono (by decide)) (by rfl) X.g_has_wish X.F_has_wish.kp X.b_has_wish (pam_cons (pm_var 5) (pam_cons (pm_str) (pam_nil))) (lenS len1)) (pm_call (ok_has_wish X) (hr.mono (by decide)) (by rfl) X.g_has_wish X.F_has_wish.kp X.b_has_wish (pam_cons (pm_var 1) (pam_cons (pm_str) (pam_nil))) (lenS len1)) (nomark _)) (psm_one (psm_ret (pm_bl))) (psm_nil))
      (psm_cons (psm_if (ptm_w (pwm_and (ptm_cmp op_gt r2m_gt (pm_callB call_lenA cm_len (by rfl) X.z_len bt_len (pam_cons (pm_var 1) (pam_nil))) (pm_int) (nomark _)) (pwm_and1 (ptm_cmp (op_neD hr.units) r2m_ne (pm_ix ix_seq r2m_ix (pm_call (ok_dearest X) (hr.mono (by decide)) (by rfl) X.g_dearest X.F_dearest.kp X.b_dearest (pam_cons (pm_var 5) (pam_nil)) len1) (pm_int) (fun _ _ => rfl)) (pm_ix ix_seq r2m_ix (pm_call (ok_dearest X) (hr.mono (by decide)) (by rfl) X.g_dearest X.F_dearest.kp X.b_dearest (pam_cons (pm_var 1) (pam_nil)) len1) (pm_int) (fun _ _ => rfl)) (nomark _))))) (psm_one (psm_ret (pm_bl))) (psm_nil))
      (psm_cons (psm_set (i := 9) nd (pm_op op_modN r2m_mod (pm_ix ix_seq r2m_ix (pm_var 2) (pm_int) (fun _ _ => rfl)) (pm_callB call_lenA cm_len (by rfl) X.z_len bt_len (pam_cons (pm_var 1) (pam_nil)))))
      (psm_cons (psm_asg (pm_ix ix_seq r2m_ix (pm_var 1) (pm_var 9) (fun _ _ => rfl)) (gm_tup rfl (gsm_cons (gm_name (i := 6) nd) (gsm_cons (gm_name (i := 7) nd) (gsm_nil))) (gl_cons (gl_cons gl_nil))))
      (psm_cons (psm_set (i := 10) nd (pm_op op_addA r2m_add (pm_int) (pm_op op_modN r2m_mod (pm_ix ix_seq r2m_ix (pm_var 2) (pm_int) (fun _ _ => rfl)) (pm_callB (cr_maxA rfl hr.units) cm_max (by rfl) X.z_max bt_max (pam_cons (pm_int) (pam_cons (pm_callB (cr_minA rfl hr.units) cm_min (by rfl) X.z_min bt_min (pam_cons (pm_int) (pam_cons (pm_op op_fdivB r2m_fdiv (pm_op op_pow r2m_pow (pm_int) (pm_int)) (pm_callB (cr_maxA rfl hr.units) cm_max (by rfl) X.z_max bt_max (pam_cons (pm_var 7) (pam_nil)))) (pam_nil)))) (pam_nil)))))))
      (psm_cons (psm_set (i := 11) nd (pm_tup (pam_cons (pm_var 6) (pam_cons (pm_callTy call_tuple_of cm_tuple (by rfl) X.z_tuple bt_tuple (pam_cons (pm_lc (own := [("amount", 15)]) rfl nd (pim_seqB (pm_var 7)) (blkOk_by (by rfl)) (fun _ _ _ _ _ => gm_name (i := 15) nd) (fun _ _ _ _ _ => ptsm_nil) (fun _ _ _ _ _ => pm_op op_mulA r2m_mul (pm_var 15) (pm_var 10))) (pam_nil))) (pam_nil)))))
      (psm_cons (psm_set (i := 12) nd (pm_call (ok_has_wish X) (hr.mono (by decide)) (by rfl) X.g_has_wish X.F_has_wish.kp X.b_has_wish (pam_cons (pm_var 1) (pam_cons (pm_str) (pam_nil))) (lenS len1)))
      (psm_cons (psm_if (ptm_cmp (op_neD hr.units) r2m_ne (pm_call (ok_has_wish X) (hr.mono (by decide)) (by rfl) X.g_has_wish X.F_has_wish.kp X.b_has_wish (pam_cons (pm_op op_addA r2m_add (pm_op op_addA r2m_add (pm_slice (pm_var 1) (pom_none) (pom_some (pm_var 9))) (pm_lst (pam_cons (pm_var 11) (pam_nil)))) (pm_slice (pm_var 1) (pom_some (pm_op op_addA r2m_add (pm_var 9) (pm_int))) (pom_none))) (pam_cons (pm_str) (pam_nil))) (lenS len1)) (pm_var 12) (nomark _)) (psm_one (psm_ret (pm_bl))) (psm_nil))
      (psm_cons (psm_if (ptm_cmp (op_neD hr.units) r2m_ne (pm_call (ok_may_come X) (hr.mono (by decide)) (by rfl) X.g_may_come X.F_may_come.kp X.b_may_come (pam_cons (pm_var 1) (pam_cons (pm_str) (pam_cons (pm_var 11) (pam_nil)))) (lenS (lenS len1))) (pm_var 12) (nomark _)) (psm_one (psm_ret (pm_bl))) (psm_nil))
      (psm_one (psm_ret (pm_cmp (op_eqD hr.units) r2m_eq (pm_call (ok_may_come X) (hr.mono (by decide)) (by rfl) X.g_may_come X.F_may_come.kp X.b_may_come (pam_cons (pm_var 1) (pam_cons (pm_str) (pam_cons (pm_ix ix_seq r2m_ix (pm_var 1) (pm_var 9) (fun _ _ => rfl)) (pam_nil)))) (lenS (lenS len1))) (pm_call (ok_has_wish X) (hr.mono (by decide)) (by rfl) X.g_has_wish X.F_has_wish.kp X.b_has_wish (pam_cons (pm_var 1) (pam_cons (pm_str) (pam_nil))) (lenS len1)) (nomark _)))))))))))))))))))
end
end W
namespace W
open M
theorem law_true (ns : List Int) (_ : ns.length ≤ 63) : Q.k32_law [.sc ns] = some (.p (.bool true)) := C.k32_true ns
end W
namespace W
open PySem PySem.Spec PyProof.Rows L2 M
set_option maxHeartbeats 8000000 in
theorem all_mk {l : PySem.W.OpenLaw} {w : World} {K : PySem.W.Frag} {h : Heap} {mg : Str → Option Value} {fa : Addr} (Y : K.In h) (G : h.Ns mainGlobals mg) (hfa : mg "law" = some (.ref fa))
    {f0 : Addr} {od0 an0 : Option Addr} {sl0 : Array (Option Value)} {oc0 kV0 dc0 pm0 cd0 ct0 : Value}
    (a0 : PySem.W.nsIn K mainGlobals "is_buying" = some (some (.ref f0))) (l0 : K.lookup f0 = some ⟨oc0, od0, .func (PySem.W.fnOf "is_buying" "is_buying" (defArgs s_is_buying) (defBody s_is_buying) (defScope s_is_buying) .none kV0 dc0 pm0 an0 cd0 ct0), sl0⟩) (c0 : PySem.W.codeIn K cd0 "is_buying" = true) (k0 : PySem.W.keepIn K (.ref f0) = true)
    {f1 : Addr} {od1 an1 : Option Addr} {sl1 : Array (Option Value)} {oc1 kV1 dc1 pm1 cd1 ct1 : Value}
    (a1 : PySem.W.nsIn K mainGlobals "cost_at" = some (some (.ref f1))) (l1 : K.lookup f1 = some ⟨oc1, od1, .func (PySem.W.fnOf "cost_at" "cost_at" (defArgs s_cost_at) (defBody s_cost_at) (defScope s_cost_at) .none kV1 dc1 pm1 an1 cd1 ct1), sl1⟩) (c1 : PySem.W.codeIn K cd1 "cost_at" = true) (k1 : PySem.W.keepIn K (.ref f1) = true)
    {f2 : Addr} {od2 an2 : Option Addr} {sl2 : Array (Option Value)} {oc2 kV2 dc2 pm2 cd2 ct2 : Value}
    (a2 : PySem.W.nsIn K mainGlobals "costs_of" = some (some (.ref f2))) (l2 : K.lookup f2 = some ⟨oc2, od2, .func (PySem.W.fnOf "costs_of" "costs_of" (defArgs s_costs_of) (defBody s_costs_of) (defScope s_costs_of) .none kV2 dc2 pm2 an2 cd2 ct2), sl2⟩) (c2 : PySem.W.codeIn K cd2 "costs_of" = true) (k2 : PySem.W.keepIn K (.ref f2) = true)
    {f3 : Addr} {od3 an3 : Option Addr} {sl3 : Array (Option Value)} {oc3 kV3 dc3 pm3 cd3 ct3 : Value}
    (a3 : PySem.W.nsIn K mainGlobals "divisor" = some (some (.ref f3))) (l3 : K.lookup f3 = some ⟨oc3, od3, .func (PySem.W.fnOf "divisor" "divisor" (defArgs s_divisor) (defBody s_divisor) (defScope s_divisor) .none kV3 dc3 pm3 an3 cd3 ct3), sl3⟩) (c3 : PySem.W.codeIn K cd3 "divisor" = true) (k3 : PySem.W.keepIn K (.ref f3) = true)
    {f4 : Addr} {od4 an4 : Option Addr} {sl4 : Array (Option Value)} {oc4 kV4 dc4 pm4 cd4 ct4 : Value}
    (a4 : PySem.W.nsIn K mainGlobals "fraction" = some (some (.ref f4))) (l4 : K.lookup f4 = some ⟨oc4, od4, .func (PySem.W.fnOf "fraction" "fraction" (defArgs s_fraction) (defBody s_fraction) (defScope s_fraction) .none kV4 dc4 pm4 an4 cd4 ct4), sl4⟩) (c4 : PySem.W.codeIn K cd4 "fraction" = true) (k4 : PySem.W.keepIn K (.ref f4) = true)
    {f5 : Addr} {od5 an5 : Option Addr} {sl5 : Array (Option Value)} {oc5 kV5 dc5 pm5 cd5 ct5 : Value}
    (a5 : PySem.W.nsIn K mainGlobals "plus" = some (some (.ref f5))) (l5 : K.lookup f5 = some ⟨oc5, od5, .func (PySem.W.fnOf "plus" "plus" (defArgs s_plus) (defBody s_plus) (defScope s_plus) .none kV5 dc5 pm5 an5 cd5 ct5), sl5⟩) (c5 : PySem.W.codeIn K cd5 "plus" = true) (k5 : PySem.W.keepIn K (.ref f5) = true)
    {f6 : Addr} {od6 an6 : Option Addr} {sl6 : Array (Option Value)} {oc6 kV6 dc6 pm6 cd6 ct6 : Value}
    (a6 : PySem.W.nsIn K mainGlobals "minus" = some (some (.ref f6))) (l6 : K.lookup f6 = some ⟨oc6, od6, .func (PySem.W.fnOf "minus" "minus" (defArgs s_minus) (defBody s_minus) (defScope s_minus) .none kV6 dc6 pm6 an6 cd6 ct6), sl6⟩) (c6 : PySem.W.codeIn K cd6 "minus" = true) (k6 : PySem.W.keepIn K (.ref f6) = true)
    {f7 : Addr} {od7 an7 : Option Addr} {sl7 : Array (Option Value)} {oc7 kV7 dc7 pm7 cd7 ct7 : Value}
    (a7 : PySem.W.nsIn K mainGlobals "times" = some (some (.ref f7))) (l7 : K.lookup f7 = some ⟨oc7, od7, .func (PySem.W.fnOf "times" "times" (defArgs s_times) (defBody s_times) (defScope s_times) .none kV7 dc7 pm7 an7 cd7 ct7), sl7⟩) (c7 : PySem.W.codeIn K cd7 "times" = true) (k7 : PySem.W.keepIn K (.ref f7) = true)
    {f8 : Addr} {od8 an8 : Option Addr} {sl8 : Array (Option Value)} {oc8 kV8 dc8 pm8 cd8 ct8 : Value}
    (a8 : PySem.W.nsIn K mainGlobals "over" = some (some (.ref f8))) (l8 : K.lookup f8 = some ⟨oc8, od8, .func (PySem.W.fnOf "over" "over" (defArgs s_over) (defBody s_over) (defScope s_over) .none kV8 dc8 pm8 an8 cd8 ct8), sl8⟩) (c8 : PySem.W.codeIn K cd8 "over" = true) (k8 : PySem.W.keepIn K (.ref f8) = true)
    {f9 : Addr} {od9 an9 : Option Addr} {sl9 : Array (Option Value)} {oc9 kV9 dc9 pm9 cd9 ct9 : Value}
    (a9 : PySem.W.nsIn K mainGlobals "is_less" = some (some (.ref f9))) (l9 : K.lookup f9 = some ⟨oc9, od9, .func (PySem.W.fnOf "is_less" "is_less" (defArgs s_is_less) (defBody s_is_less) (defScope s_is_less) .none kV9 dc9 pm9 an9 cd9 ct9), sl9⟩) (c9 : PySem.W.codeIn K cd9 "is_less" = true) (k9 : PySem.W.keepIn K (.ref f9) = true)
    {f10 : Addr} {od10 an10 : Option Addr} {sl10 : Array (Option Value)} {oc10 kV10 dc10 pm10 cd10 ct10 : Value}
    (a10 : PySem.W.nsIn K mainGlobals "lesser" = some (some (.ref f10))) (l10 : K.lookup f10 = some ⟨oc10, od10, .func (PySem.W.fnOf "lesser" "lesser" (defArgs s_lesser) (defBody s_lesser) (defScope s_lesser) .none kV10 dc10 pm10 an10 cd10 ct10), sl10⟩) (c10 : PySem.W.codeIn K cd10 "lesser" = true) (k10 : PySem.W.keepIn K (.ref f10) = true)
    {f11 : Addr} {od11 an11 : Option Addr} {sl11 : Array (Option Value)} {oc11 kV11 dc11 pm11 cd11 ct11 : Value}
    (a11 : PySem.W.nsIn K mainGlobals "greater" = some (some (.ref f11))) (l11 : K.lookup f11 = some ⟨oc11, od11, .func (PySem.W.fnOf "greater" "greater" (defArgs s_greater) (defBody s_greater) (defScope s_greater) .none kV11 dc11 pm11 an11 cd11 ct11), sl11⟩) (c11 : PySem.W.codeIn K cd11 "greater" = true) (k11 : PySem.W.keepIn K (.ref f11) = true)
    {f12 : Addr} {od12 an12 : Option Addr} {sl12 : Array (Option Value)} {oc12 kV12 dc12 pm12 cd12 ct12 : Value}
    (a12 : PySem.W.nsIn K mainGlobals "way_between" = some (some (.ref f12))) (l12 : K.lookup f12 = some ⟨oc12, od12, .func (PySem.W.fnOf "way_between" "way_between" (defArgs s_way_between) (defBody s_way_between) (defScope s_way_between) .none kV12 dc12 pm12 an12 cd12 ct12), sl12⟩) (c12 : PySem.W.codeIn K cd12 "way_between" = true) (k12 : PySem.W.keepIn K (.ref f12) = true)
    {f13 : Addr} {od13 an13 : Option Addr} {sl13 : Array (Option Value)} {oc13 kV13 dc13 pm13 cd13 ct13 : Value}
    (a13 : PySem.W.nsIn K mainGlobals "open_ways" = some (some (.ref f13))) (l13 : K.lookup f13 = some ⟨oc13, od13, .func (PySem.W.fnOf "open_ways" "open_ways" (defArgs s_open_ways) (defBody s_open_ways) (defScope s_open_ways) .none kV13 dc13 pm13 an13 cd13 ct13), sl13⟩) (c13 : PySem.W.codeIn K cd13 "open_ways" = true) (k13 : PySem.W.keepIn K (.ref f13) = true)
    {f14 : Addr} {od14 an14 : Option Addr} {sl14 : Array (Option Value)} {oc14 kV14 dc14 pm14 cd14 ct14 : Value}
    (a14 : PySem.W.nsIn K mainGlobals "barring_round" = some (some (.ref f14))) (l14 : K.lookup f14 = some ⟨oc14, od14, .func (PySem.W.fnOf "barring_round" "barring_round" (defArgs s_barring_round) (defBody s_barring_round) (defScope s_barring_round) .none kV14 dc14 pm14 an14 cd14 ct14), sl14⟩) (c14 : PySem.W.codeIn K cd14 "barring_round" = true) (k14 : PySem.W.keepIn K (.ref f14) = true)
    {f15 : Addr} {od15 an15 : Option Addr} {sl15 : Array (Option Value)} {oc15 kV15 dc15 pm15 cd15 ct15 : Value}
    (a15 : PySem.W.nsIn K mainGlobals "top_class" = some (some (.ref f15))) (l15 : K.lookup f15 = some ⟨oc15, od15, .func (PySem.W.fnOf "top_class" "top_class" (defArgs s_top_class) (defBody s_top_class) (defScope s_top_class) .none kV15 dc15 pm15 an15 cd15 ct15), sl15⟩) (c15 : PySem.W.codeIn K cd15 "top_class" = true) (k15 : PySem.W.keepIn K (.ref f15) = true)
    {f16 : Addr} {od16 an16 : Option Addr} {sl16 : Array (Option Value)} {oc16 kV16 dc16 pm16 cd16 ct16 : Value}
    (a16 : PySem.W.nsIn K mainGlobals "any_wish" = some (some (.ref f16))) (l16 : K.lookup f16 = some ⟨oc16, od16, .func (PySem.W.fnOf "any_wish" "any_wish" (defArgs s_any_wish) (defBody s_any_wish) (defScope s_any_wish) .none kV16 dc16 pm16 an16 cd16 ct16), sl16⟩) (c16 : PySem.W.codeIn K cd16 "any_wish" = true) (k16 : PySem.W.keepIn K (.ref f16) = true)
    {f17 : Addr} {od17 an17 : Option Addr} {sl17 : Array (Option Value)} {oc17 kV17 dc17 pm17 cd17 ct17 : Value}
    (a17 : PySem.W.nsIn K mainGlobals "told_any" = some (some (.ref f17))) (l17 : K.lookup f17 = some ⟨oc17, od17, .func (PySem.W.fnOf "told_any" "told_any" (defArgs s_told_any) (defBody s_told_any) (defScope s_told_any) .none kV17 dc17 pm17 an17 cd17 ct17), sl17⟩) (c17 : PySem.W.codeIn K cd17 "told_any" = true) (k17 : PySem.W.keepIn K (.ref f17) = true)
    {f18 : Addr} {od18 an18 : Option Addr} {sl18 : Array (Option Value)} {oc18 kV18 dc18 pm18 cd18 ct18 : Value}
    (a18 : PySem.W.nsIn K mainGlobals "step_worth" = some (some (.ref f18))) (l18 : K.lookup f18 = some ⟨oc18, od18, .func (PySem.W.fnOf "step_worth" "step_worth" (defArgs s_step_worth) (defBody s_step_worth) (defScope s_step_worth) .none kV18 dc18 pm18 an18 cd18 ct18), sl18⟩) (c18 : PySem.W.codeIn K cd18 "step_worth" = true) (k18 : PySem.W.keepIn K (.ref f18) = true)
    {f19 : Addr} {od19 an19 : Option Addr} {sl19 : Array (Option Value)} {oc19 kV19 dc19 pm19 cd19 ct19 : Value}
    (a19 : PySem.W.nsIn K mainGlobals "round_back" = some (some (.ref f19))) (l19 : K.lookup f19 = some ⟨oc19, od19, .func (PySem.W.fnOf "round_back" "round_back" (defArgs s_round_back) (defBody s_round_back) (defScope s_round_back) .none kV19 dc19 pm19 an19 cd19 ct19), sl19⟩) (c19 : PySem.W.codeIn K cd19 "round_back" = true) (k19 : PySem.W.keepIn K (.ref f19) = true)
    {f20 : Addr} {od20 an20 : Option Addr} {sl20 : Array (Option Value)} {oc20 kV20 dc20 pm20 cd20 ct20 : Value}
    (a20 : PySem.W.nsIn K mainGlobals "lowered" = some (some (.ref f20))) (l20 : K.lookup f20 = some ⟨oc20, od20, .func (PySem.W.fnOf "lowered" "lowered" (defArgs s_lowered) (defBody s_lowered) (defScope s_lowered) .none kV20 dc20 pm20 an20 cd20 ct20), sl20⟩) (c20 : PySem.W.codeIn K cd20 "lowered" = true) (k20 : PySem.W.keepIn K (.ref f20) = true)
    {f21 : Addr} {od21 an21 : Option Addr} {sl21 : Array (Option Value)} {oc21 kV21 dc21 pm21 cd21 ct21 : Value}
    (a21 : PySem.W.nsIn K mainGlobals "told_by" = some (some (.ref f21))) (l21 : K.lookup f21 = some ⟨oc21, od21, .func (PySem.W.fnOf "told_by" "told_by" (defArgs s_told_by) (defBody s_told_by) (defScope s_told_by) .none kV21 dc21 pm21 an21 cd21 ct21), sl21⟩) (c21 : PySem.W.codeIn K cd21 "told_by" = true) (k21 : PySem.W.keepIn K (.ref f21) = true)
    {f22 : Addr} {od22 an22 : Option Addr} {sl22 : Array (Option Value)} {oc22 kV22 dc22 pm22 cd22 ct22 : Value}
    (a22 : PySem.W.nsIn K mainGlobals "has_wish" = some (some (.ref f22))) (l22 : K.lookup f22 = some ⟨oc22, od22, .func (PySem.W.fnOf "has_wish" "has_wish" (defArgs s_has_wish) (defBody s_has_wish) (defScope s_has_wish) .none kV22 dc22 pm22 an22 cd22 ct22), sl22⟩) (c22 : PySem.W.codeIn K cd22 "has_wish" = true) (k22 : PySem.W.keepIn K (.ref f22) = true)
    {f23 : Addr} {od23 an23 : Option Addr} {sl23 : Array (Option Value)} {oc23 kV23 dc23 pm23 cd23 ct23 : Value}
    (a23 : PySem.W.nsIn K mainGlobals "walks" = some (some (.ref f23))) (l23 : K.lookup f23 = some ⟨oc23, od23, .func (PySem.W.fnOf "walks" "walks" (defArgs s_walks) (defBody s_walks) (defScope s_walks) .none kV23 dc23 pm23 an23 cd23 ct23), sl23⟩) (c23 : PySem.W.codeIn K cd23 "walks" = true) (k23 : PySem.W.keepIn K (.ref f23) = true)
    {f24 : Addr} {od24 an24 : Option Addr} {sl24 : Array (Option Value)} {oc24 kV24 dc24 pm24 cd24 ct24 : Value}
    (a24 : PySem.W.nsIn K mainGlobals "least_mean" = some (some (.ref f24))) (l24 : K.lookup f24 = some ⟨oc24, od24, .func (PySem.W.fnOf "least_mean" "least_mean" (defArgs s_least_mean) (defBody s_least_mean) (defScope s_least_mean) .none kV24 dc24 pm24 an24 cd24 ct24), sl24⟩) (c24 : PySem.W.codeIn K cd24 "least_mean" = true) (k24 : PySem.W.keepIn K (.ref f24) = true)
    {f25 : Addr} {od25 an25 : Option Addr} {sl25 : Array (Option Value)} {oc25 kV25 dc25 pm25 cd25 ct25 : Value}
    (a25 : PySem.W.nsIn K mainGlobals "lifted" = some (some (.ref f25))) (l25 : K.lookup f25 = some ⟨oc25, od25, .func (PySem.W.fnOf "lifted" "lifted" (defArgs s_lifted) (defBody s_lifted) (defScope s_lifted) .none kV25 dc25 pm25 an25 cd25 ct25), sl25⟩) (c25 : PySem.W.codeIn K cd25 "lifted" = true) (k25 : PySem.W.keepIn K (.ref f25) = true)
    {f26 : Addr} {od26 an26 : Option Addr} {sl26 : Array (Option Value)} {oc26 kV26 dc26 pm26 cd26 ct26 : Value}
    (a26 : PySem.W.nsIn K mainGlobals "dearest" = some (some (.ref f26))) (l26 : K.lookup f26 = some ⟨oc26, od26, .func (PySem.W.fnOf "dearest" "dearest" (defArgs s_dearest) (defBody s_dearest) (defScope s_dearest) .none kV26 dc26 pm26 an26 cd26 ct26), sl26⟩) (c26 : PySem.W.codeIn K cd26 "dearest" = true) (k26 : PySem.W.keepIn K (.ref f26) = true)
    {f27 : Addr} {od27 an27 : Option Addr} {sl27 : Array (Option Value)} {oc27 kV27 dc27 pm27 cd27 ct27 : Value}
    (a27 : PySem.W.nsIn K mainGlobals "need_buying" = some (some (.ref f27))) (l27 : K.lookup f27 = some ⟨oc27, od27, .func (PySem.W.fnOf "need_buying" "need_buying" (defArgs s_need_buying) (defBody s_need_buying) (defScope s_need_buying) .none kV27 dc27 pm27 an27 cd27 ct27), sl27⟩) (c27 : PySem.W.codeIn K cd27 "need_buying" = true) (k27 : PySem.W.keepIn K (.ref f27) = true)
    {f28 : Addr} {od28 an28 : Option Addr} {sl28 : Array (Option Value)} {oc28 kV28 dc28 pm28 cd28 ct28 : Value}
    (a28 : PySem.W.nsIn K mainGlobals "may_come" = some (some (.ref f28))) (l28 : K.lookup f28 = some ⟨oc28, od28, .func (PySem.W.fnOf "may_come" "may_come" (defArgs s_may_come) (defBody s_may_come) (defScope s_may_come) .none kV28 dc28 pm28 an28 cd28 ct28), sl28⟩) (c28 : PySem.W.codeIn K cd28 "may_come" = true) (k28 : PySem.W.keepIn K (.ref f28) = true)
    {f29 : Addr} {od29 an29 : Option Addr} {sl29 : Array (Option Value)} {oc29 kV29 dc29 pm29 cd29 ct29 : Value}
    (a29 : PySem.W.nsIn K mainGlobals "_law_cell_at" = some (some (.ref f29))) (l29 : K.lookup f29 = some ⟨oc29, od29, .func (PySem.W.fnOf "_law_cell_at" "_law_cell_at" (defArgs s__law_cell_at) (defBody s__law_cell_at) (defScope s__law_cell_at) .none kV29 dc29 pm29 an29 cd29 ct29), sl29⟩) (c29 : PySem.W.codeIn K cd29 "_law_cell_at" = true) (k29 : PySem.W.keepIn K (.ref f29) = true)
    {f30 : Addr} {od30 an30 : Option Addr} {sl30 : Array (Option Value)} {oc30 kV30 dc30 pm30 cd30 ct30 : Value}
    (a30 : PySem.W.nsIn K mainGlobals "_law_draws" = some (some (.ref f30))) (l30 : K.lookup f30 = some ⟨oc30, od30, .func (PySem.W.fnOf "_law_draws" "_law_draws" (defArgs s__law_draws) (defBody s__law_draws) (defScope s__law_draws) .none kV30 dc30 pm30 an30 cd30 ct30), sl30⟩) (c30 : PySem.W.codeIn K cd30 "_law_draws" = true) (k30 : PySem.W.keepIn K (.ref f30) = true)
    {f31 : Addr} {od31 an31 : Option Addr} {sl31 : Array (Option Value)} {oc31 kV31 dc31 pm31 cd31 ct31 : Value}
    (a31 : PySem.W.nsIn K mainGlobals "_law_best_good" = some (some (.ref f31))) (l31 : K.lookup f31 = some ⟨oc31, od31, .func (PySem.W.fnOf "_law_best_good" "_law_best_good" (defArgs s__law_best_good) (defBody s__law_best_good) (defScope s__law_best_good) .none kV31 dc31 pm31 an31 cd31 ct31), sl31⟩) (c31 : PySem.W.codeIn K cd31 "_law_best_good" = true) (k31 : PySem.W.keepIn K (.ref f31) = true)
    {f32 : Addr} {od32 an32 : Option Addr} {sl32 : Array (Option Value)} {oc32 kV32 dc32 pm32 cd32 ct32 : Value}
    (a32 : PySem.W.nsIn K mainGlobals "_law_a_book" = some (some (.ref f32))) (l32 : K.lookup f32 = some ⟨oc32, od32, .func (PySem.W.fnOf "_law_a_book" "_law_a_book" (defArgs s__law_a_book) (defBody s__law_a_book) (defScope s__law_a_book) .none kV32 dc32 pm32 an32 cd32 ct32), sl32⟩) (c32 : PySem.W.codeIn K cd32 "_law_a_book" = true) (k32 : PySem.W.keepIn K (.ref f32) = true)
    {f33 : Addr} {od33 an33 : Option Addr} {sl33 : Array (Option Value)} {oc33 kV33 dc33 pm33 cd33 ct33 : Value}
    (a33 : PySem.W.nsIn K mainGlobals "law" = some (some (.ref f33))) (l33 : K.lookup f33 = some ⟨oc33, od33, .func (PySem.W.fnOf "law" "law" (defArgs s_law) (defBody s_law) (defScope s_law) .none kV33 dc33 pm33 an33 cd33 ct33), sl33⟩) (c33 : PySem.W.codeIn K cd33 "law" = true) (k33 : PySem.W.keepIn K (.ref f33) = true)
    (z0 : PySem.W.nsIn K mainGlobals "abs" = some none)
    (z1 : PySem.W.nsIn K mainGlobals "all" = some none)
    (z2 : PySem.W.nsIn K mainGlobals "int" = some none)
    (z3 : PySem.W.nsIn K mainGlobals "len" = some none)
    (z4 : PySem.W.nsIn K mainGlobals "list" = some none)
    (z5 : PySem.W.nsIn K mainGlobals "max" = some none)
    (z6 : PySem.W.nsIn K mainGlobals "min" = some none)
    (z7 : PySem.W.nsIn K mainGlobals "range" = some none)
    (z8 : PySem.W.nsIn K mainGlobals "sum" = some none)
    (z9 : PySem.W.nsIn K mainGlobals "tuple" = some none)
    (z10 : PySem.W.nsIn K mainGlobals "zip" = some none)
    {tk0 : Tok} (q0 : PySem.W.nsIn K mainGlobals "MOST_GOODS" = some (some (.int 6 tk0)))
    {tk1 : Tok} (q1 : PySem.W.nsIn K mainGlobals "MOST_AMOUNT" = some (some (.int 1000000 tk1)))
    (hl : ∀ ns : List Int, ns.length ≤ 63 → Q.k32_law [.sc ns] = some (.p (.bool true))) :
    ∃ fd : FuncData, (∀ (s : Shared) (v : Value), BindsTo s fd ⟨[v], []⟩ [("script", v)]) ∧ ∀ base : Heap, K.In base → base.Ns mainGlobals mg → FnOk l.prog w K mg base CX0 9 fa fd ["script"] (M.spLaw 63 K) := by
  have e := hfa.symm.trans (PySem.W.mg_of Y G a33)
  cases e
  have F0 := fun_mk (st := s_is_buying) l0 c0 k0
  have F1 := fun_mk (st := s_cost_at) l1 c1 k1
  have F2 := fun_mk (st := s_costs_of) l2 c2 k2
  have F3 := fun_mk (st := s_divisor) l3 c3 k3
  have F4 := fun_mk (st := s_fraction) l4 c4 k4
  have F5 := fun_mk (st := s_plus) l5 c5 k5
  have F6 := fun_mk (st := s_minus) l6 c6 k6
  have F7 := fun_mk (st := s_times) l7 c7 k7
  have F8 := fun_mk (st := s_over) l8 c8 k8
  have F9 := fun_mk (st := s_is_less) l9 c9 k9
  have F10 := fun_mk (st := s_lesser) l10 c10 k10
  have F11 := fun_mk (st := s_greater) l11 c11 k11
  have F12 := fun_mk (st := s_way_between) l12 c12 k12
  have F13 := fun_mk (st := s_open_ways) l13 c13 k13
  have F14 := fun_mk (st := s_barring_round) l14 c14 k14
  have F15 := fun_mk (st := s_top_class) l15 c15 k15
  have F16 := fun_mk (st := s_any_wish) l16 c16 k16
  have F17 := fun_mk (st := s_told_any) l17 c17 k17
  have F18 := fun_mk (st := s_step_worth) l18 c18 k18
  have F19 := fun_mk (st := s_round_back) l19 c19 k19
  have F20 := fun_mk (st := s_lowered) l20 c20 k20
  have F21 := fun_mk (st := s_told_by) l21 c21 k21
  have F22 := fun_mk (st := s_has_wish) l22 c22 k22
  have F23 := fun_mk (st := s_walks) l23 c23 k23
  have F24 := fun_mk (st := s_least_mean) l24 c24 k24
  have F25 := fun_mk (st := s_lifted) l25 c25 k25
  have F26 := fun_mk (st := s_dearest) l26 c26 k26
  have F27 := fun_mk (st := s_need_buying) l27 c27 k27
  have F28 := fun_mk (st := s_may_come) l28 c28 k28
  have F29 := fun_mk (st := s__law_cell_at) l29 c29 k29
  have F30 := fun_mk (st := s__law_draws) l30 c30 k30
  have F31 := fun_mk (st := s__law_best_good) l31 c31 k31
  have F32 := fun_mk (st := s__law_a_book) l32 c32 k32
  have F33 := fun_mk (st := s_law) l33 c33 k33
  have b0 := F0.binds (ps := ["thing"]) fun _ _ _ _ _ _ us hl => match us, hl with | [_], _ => rfl
  have b1 := F1.binds (ps := ["prices", "amounts"]) fun _ _ _ _ _ _ us hl => match us, hl with | [_, _], _ => rfl
  have b2 := F2.binds (ps := ["book"]) fun _ _ _ _ _ _ us hl => match us, hl with | [_], _ => rfl
  have b3 := F3.binds (ps := ["one", "other"]) fun _ _ _ _ _ _ us hl => match us, hl with | [_, _], _ => rfl
  have b4 := F4.binds (ps := ["top", "bottom"]) fun _ _ _ _ _ _ us hl => match us, hl with | [_, _], _ => rfl
  have b5 := F5.binds (ps := ["one", "other"]) fun _ _ _ _ _ _ us hl => match us, hl with | [_, _], _ => rfl
  have b6 := F6.binds (ps := ["one", "other"]) fun _ _ _ _ _ _ us hl => match us, hl with | [_, _], _ => rfl
  have b7 := F7.binds (ps := ["one", "number"]) fun _ _ _ _ _ _ us hl => match us, hl with | [_, _], _ => rfl
  have b8 := F8.binds (ps := ["one", "number"]) fun _ _ _ _ _ _ us hl => match us, hl with | [_, _], _ => rfl
  have b9 := F9.binds (ps := ["one", "other"]) fun _ _ _ _ _ _ us hl => match us, hl with | [_, _], _ => rfl
  have b10 := F10.binds (ps := ["one", "other"]) fun _ _ _ _ _ _ us hl => match us, hl with | [_, _], _ => rfl
  have b11 := F11.binds (ps := ["one", "other"]) fun _ _ _ _ _ _ us hl => match us, hl with | [_, _], _ => rfl
  have b12 := F12.binds (ps := ["ways", "one", "other"]) fun _ _ _ _ _ _ us hl => match us, hl with | [_, _, _], _ => rfl
  have b13 := F13.binds (ps := ["costs"]) fun _ _ _ _ _ _ us hl => match us, hl with | [_], _ => rfl
  have b14 := F14.binds (ps := ["costs", "ways"]) fun _ _ _ _ _ _ us hl => match us, hl with | [_, _], _ => rfl
  have b15 := F15.binds (ps := ["ways", "left"]) fun _ _ _ _ _ _ us hl => match us, hl with | [_, _], _ => rfl
  have b16 := F16.binds (ps := ["costs", "ways"]) fun _ _ _ _ _ _ us hl => match us, hl with | [_, _], _ => rfl
  have b17 := F17.binds (ps := ["costs"]) fun _ _ _ _ _ _ us hl => match us, hl with | [_], _ => rfl
  have b18 := F18.binds (ps := ["kind", "costs", "worths", "one", "other"]) fun _ _ _ _ _ _ us hl => match us, hl with | [_, _, _, _, _], _ => rfl
  have b19 := F19.binds (ps := ["behind", "last", "many"]) fun _ _ _ _ _ _ us hl => match us, hl with | [_, _, _], _ => rfl
  have b20 := F20.binds (ps := ["kind", "costs", "worths", "behind"]) fun _ _ _ _ _ _ us hl => match us, hl with | [_, _, _, _], _ => rfl
  have b21 := F21.binds (ps := ["book", "kind"]) fun _ _ _ _ _ _ us hl => match us, hl with | [_, _], _ => rfl
  have b22 := F22.binds (ps := ["book", "kind"]) fun _ _ _ _ _ _ us hl => match us, hl with | [_, _], _ => rfl
  have b23 := F23.binds (ps := ["costs"]) fun _ _ _ _ _ _ us hl => match us, hl with | [_], _ => rfl
  have b24 := F24.binds (ps := ["costs"]) fun _ _ _ _ _ _ us hl => match us, hl with | [_], _ => rfl
  have b25 := F25.binds (ps := ["costs", "mean"]) fun _ _ _ _ _ _ us hl => match us, hl with | [_, _], _ => rfl
  have b26 := F26.binds (ps := ["book"]) fun _ _ _ _ _ _ us hl => match us, hl with | [_], _ => rfl
  have b27 := F27.binds (ps := ["book", "buying"]) fun _ _ _ _ _ _ us hl => match us, hl with | [_, _], _ => rfl
  have b28 := F28.binds (ps := ["book", "kind", "buying"]) fun _ _ _ _ _ _ us hl => match us, hl with | [_, _, _], _ => rfl
  have b29 := F29.binds (ps := ["script", "k"]) fun _ _ _ _ _ _ us hl => match us, hl with | [_, _], _ => rfl
  have b30 := F30.binds (ps := ["cell", "many", "base"]) fun _ _ _ _ _ _ us hl => match us, hl with | [_, _, _], _ => rfl
  have b31 := F31.binds (ps := ["prices", "weights", "amount"]) fun _ _ _ _ _ _ us hl => match us, hl with | [_, _, _], _ => rfl
  have b32 := F32.binds (ps := ["script", "at", "most"]) fun _ _ _ _ _ _ us hl => match us, hl with | [_, _, _], _ => rfl
  have b33 := F33.binds (ps := ["script"]) fun _ _ _ _ _ _ us hl => match us, hl with | [_], _ => rfl
  let X : Tx K mg := {
    a_is_buying := _,
    d_is_buying := _,
    F_is_buying := F0,
    b_is_buying := b0,
    g_is_buying := PySem.W.mg_of Y G a0,
    a_cost_at := _,
    d_cost_at := _,
    F_cost_at := F1,
    b_cost_at := b1,
    g_cost_at := PySem.W.mg_of Y G a1,
    a_costs_of := _,
    d_costs_of := _,
    F_costs_of := F2,
    b_costs_of := b2,
    g_costs_of := PySem.W.mg_of Y G a2,
    a_divisor := _,
    d_divisor := _,
    F_divisor := F3,
    b_divisor := b3,
    g_divisor := PySem.W.mg_of Y G a3,
    a_fraction := _,
    d_fraction := _,
    F_fraction := F4,
    b_fraction := b4,
    g_fraction := PySem.W.mg_of Y G a4,
    a_plus := _,
    d_plus := _,
    F_plus := F5,
    b_plus := b5,
    g_plus := PySem.W.mg_of Y G a5,
    a_minus := _,
    d_minus := _,
    F_minus := F6,
    b_minus := b6,
    g_minus := PySem.W.mg_of Y G a6,
    a_times := _,
    d_times := _,
    F_times := F7,
    b_times := b7,
    g_times := PySem.W.mg_of Y G a7,
    a_over := _,
    d_over := _,
    F_over := F8,
    b_over := b8,
    g_over := PySem.W.mg_of Y G a8,
    a_is_less := _,
    d_is_less := _,
    F_is_less := F9,
    b_is_less := b9,
    g_is_less := PySem.W.mg_of Y G a9,
    a_lesser := _,
    d_lesser := _,
    F_lesser := F10,
    b_lesser := b10,
    g_lesser := PySem.W.mg_of Y G a10,
    a_greater := _,
    d_greater := _,
    F_greater := F11,
    b_greater := b11,
    g_greater := PySem.W.mg_of Y G a11,
    a_way_between := _,
    d_way_between := _,
    F_way_between := F12,
    b_way_between := b12,
    g_way_between := PySem.W.mg_of Y G a12,
    a_open_ways := _,
    d_open_ways := _,
    F_open_ways := F13,
    b_open_ways := b13,
    g_open_ways := PySem.W.mg_of Y G a13,
    a_barring_round := _,
    d_barring_round := _,
    F_barring_round := F14,
    b_barring_round := b14,
    g_barring_round := PySem.W.mg_of Y G a14,
    a_top_class := _,
    d_top_class := _,
    F_top_class := F15,
    b_top_class := b15,
    g_top_class := PySem.W.mg_of Y G a15,
    a_any_wish := _,
    d_any_wish := _,
    F_any_wish := F16,
    b_any_wish := b16,
    g_any_wish := PySem.W.mg_of Y G a16,
    a_told_any := _,
    d_told_any := _,
    F_told_any := F17,
    b_told_any := b17,
    g_told_any := PySem.W.mg_of Y G a17,
    a_step_worth := _,
    d_step_worth := _,
    F_step_worth := F18,
    b_step_worth := b18,
    g_step_worth := PySem.W.mg_of Y G a18,
    a_round_back := _,
    d_round_back := _,
    F_round_back := F19,
    b_round_back := b19,
    g_round_back := PySem.W.mg_of Y G a19,
    a_lowered := _,
    d_lowered := _,
    F_lowered := F20,
    b_lowered := b20,
    g_lowered := PySem.W.mg_of Y G a20,
    a_told_by := _,
    d_told_by := _,
    F_told_by := F21,
    b_told_by := b21,
    g_told_by := PySem.W.mg_of Y G a21,
    a_has_wish := _,
    d_has_wish := _,
    F_has_wish := F22,
    b_has_wish := b22,
    g_has_wish := PySem.W.mg_of Y G a22,
    a_walks := _,
    d_walks := _,
    F_walks := F23,
    b_walks := b23,
    g_walks := PySem.W.mg_of Y G a23,
    a_least_mean := _,
    d_least_mean := _,
    F_least_mean := F24,
    b_least_mean := b24,
    g_least_mean := PySem.W.mg_of Y G a24,
    a_lifted := _,
    d_lifted := _,
    F_lifted := F25,
    b_lifted := b25,
    g_lifted := PySem.W.mg_of Y G a25,
    a_dearest := _,
    d_dearest := _,
    F_dearest := F26,
    b_dearest := b26,
    g_dearest := PySem.W.mg_of Y G a26,
    a_need_buying := _,
    d_need_buying := _,
    F_need_buying := F27,
    b_need_buying := b27,
    g_need_buying := PySem.W.mg_of Y G a27,
    a_may_come := _,
    d_may_come := _,
    F_may_come := F28,
    b_may_come := b28,
    g_may_come := PySem.W.mg_of Y G a28,
    a__law_cell_at := _,
    d__law_cell_at := _,
    F__law_cell_at := F29,
    b__law_cell_at := b29,
    g__law_cell_at := PySem.W.mg_of Y G a29,
    a__law_draws := _,
    d__law_draws := _,
    F__law_draws := F30,
    b__law_draws := b30,
    g__law_draws := PySem.W.mg_of Y G a30,
    a__law_best_good := _,
    d__law_best_good := _,
    F__law_best_good := F31,
    b__law_best_good := b31,
    g__law_best_good := PySem.W.mg_of Y G a31,
    a__law_a_book := _,
    d__law_a_book := _,
    F__law_a_book := F32,
    b__law_a_book := b32,
    g__law_a_book := PySem.W.mg_of Y G a32,
    a_law := _,
    d_law := _,
    F_law := F33,
    b_law := b33,
    g_law := PySem.W.mg_of Y G a33,
    z_abs := PySem.W.mg_none_of Y G z0,
    z_all := PySem.W.mg_none_of Y G z1,
    z_int := PySem.W.mg_none_of Y G z2,
    z_len := PySem.W.mg_none_of Y G z3,
    z_list := PySem.W.mg_none_of Y G z4,
    z_max := PySem.W.mg_none_of Y G z5,
    z_min := PySem.W.mg_none_of Y G z6,
    z_range := PySem.W.mg_none_of Y G z7,
    z_sum := PySem.W.mg_none_of Y G z8,
    z_tuple := PySem.W.mg_none_of Y G z9,
    z_zip := PySem.W.mg_none_of Y G z10,
    t_MOST_GOODS := _,
    c_MOST_GOODS := PySem.W.mg_of Y G q0,
    t_MOST_AMOUNT := _,
    c_MOST_AMOUNT := PySem.W.mg_of Y G q1 }
  exact ⟨PySem.W.fnOf "law" "law" (defArgs s_law) (defBody s_law) (defScope s_law) .none kV33 dc33 pm33 an33 cd33 ct33, fun s v => .of_eq rfl, fun base _ _ => law_ok (ok_law X) hl⟩
end W
open PySem PySem.W PyProof.Rows
set_option maxHeartbeats 0 in
theorem PySem.Challenge.cw_onewish_k32_whole_even_and_scaled_turned_holds : PySem.Challenge.rw_onewish_k32_whole_even_and_scaled_turned.Holds := by
  w_on; o_law; k_head; (case hw => w_witness2)
  k_fill
  refine L2.walk_of (l := PySem.Challenge.rw_onewish_k32_whole_even_and_scaled_turned) (n := 63) (k := 9) (x := "script") (CX := fun _ => L2.CX0) (sp := fun w => M.spLaw 63 _) rfl (by decide) rfl ⟨rfl, by decide, by decide⟩ (fun w h Y => PySem.W.kIn_of Y) ?F (fun _ _ a ns hl _ hS => ⟨a, ns, rfl, hS, hl, fun _ => rfl⟩) (fun _ _ _ _ _ h => h)
  case F =>
    intro w mg fa h KX G hmg
    refine' W.all_mk KX G hmg ?a0 ?l0 ?c0 ?k0 ?a1 ?l1 ?c1 ?k1 ?a2 ?l2 ?c2 ?k2 ?a3 ?l3 ?c3 ?k3 ?a4 ?l4 ?c4 ?k4 ?a5 ?l5 ?c5 ?k5 ?a6 ?l6 ?c6 ?k6 ?a7 ?l7 ?c7 ?k7 ?a8 ?l8 ?c8 ?k8 ?a9 ?l9 ?c9 ?k9 ?a10 ?l10 ?c10 ?k10 ?a11 ?l11 ?c11 ?k11 ?a12 ?l12 ?c12 ?k12 ?a13 ?l13 ?c13 ?k13 ?a14 ?l14 ?c14 ?k14 ?a15 ?l15 ?c15 ?k15 ?a16 ?l16 ?c16 ?k16 ?a17 ?l17 ?c17 ?k17 ?a18 ?l18 ?c18 ?k18 ?a19 ?l19 ?c19 ?k19 ?a20 ?l20 ?c20 ?k20 ?a21 ?l21 ?c21 ?k21 ?a22 ?l22 ?c22 ?k22 ?a23 ?l23 ?c23 ?k23 ?a24 ?l24 ?c24 ?k24 ?a25 ?l25 ?c25 ?k25 ?a26 ?l26 ?c26 ?k26 ?a27 ?l27 ?c27 ?k27 ?a28 ?l28 ?c28 ?k28 ?a29 ?l29 ?c29 ?k29 ?a30 ?l30 ?c30 ?k30 ?a31 ?l31 ?c31 ?k31 ?a32 ?l32 ?c32 ?k32 ?a33 ?l33 ?c33 ?k33 ?z0 ?z1 ?z2 ?z3 ?z4 ?z5 ?z6 ?z7 ?z8 ?z9 ?z10 ?q0 ?q1 W.law_true
    (case a0 => k_is)
    (case l0 => k_is)
    (case c0 => k_is)
    (case k0 => k_is)
    (case a1 => k_is)
    (case l1 => k_is)
    (case c1 => k_is)
    (case k1 => k_is)
    (case a2 => k_is)
    (case l2 => k_is)
    (case c2 => k_is)
    (case k2 => k_is)
    (case a3 => k_is)
    (case l3 => k_is)
    (case c3 => k_is)
    (case k3 => k_is)
    (case a4 => k_is)
    (case l4 => k_is)
    (case c4 => k_is)
    (case k4 => k_is)
    (case a5 => k_is)
    (case l5 => k_is)
    (case c5 => k_is)
    (case k5 => k_is)
    (case a6 => k_is)
    (case l6 => k_is)
    (case c6 => k_is)
    (case k6 => k_is)
    (case a7 => k_is)
    (case l7 => k_is)
    (case c7 => k_is)
    (case k7 => k_is)
    (case a8 => k_is)
    (case l8 => k_is)
    (case c8 => k_is)
    (case k8 => k_is)
    (case a9 => k_is)
    (case l9 => k_is)
    (case c9 => k_is)
    (case k9 => k_is)
    (case a10 => k_is)
    (case l10 => k_is)
    (case c10 => k_is)
    (case k10 => k_is)
    (case a11 => k_is)
    (case l11 => k_is)
    (case c11 => k_is)
    (case k11 => k_is)
    (case a12 => k_is)
    (case l12 => k_is)
    (case c12 => k_is)
    (case k12 => k_is)
    (case a13 => k_is)
    (case l13 => k_is)
    (case c13 => k_is)
    (case k13 => k_is)
    (case a14 => k_is)
    (case l14 => k_is)
    (case c14 => k_is)
    (case k14 => k_is)
    (case a15 => k_is)
    (case l15 => k_is)
    (case c15 => k_is)
    (case k15 => k_is)
    (case a16 => k_is)
    (case l16 => k_is)
    (case c16 => k_is)
    (case k16 => k_is)
    (case a17 => k_is)
    (case l17 => k_is)
    (case c17 => k_is)
    (case k17 => k_is)
    (case a18 => k_is)
    (case l18 => k_is)
    (case c18 => k_is)
    (case k18 => k_is)
    (case a19 => k_is)
    (case l19 => k_is)
    (case c19 => k_is)
    (case k19 => k_is)
    (case a20 => k_is)
    (case l20 => k_is)
    (case c20 => k_is)
    (case k20 => k_is)
    (case a21 => k_is)
    (case l21 => k_is)
    (case c21 => k_is)
    (case k21 => k_is)
    (case a22 => k_is)
    (case l22 => k_is)
    (case c22 => k_is)
    (case k22 => k_is)
    (case a23 => k_is)
    (case l23 => k_is)
    (case c23 => k_is)
    (case k23 => k_is)
    (case a24 => k_is)
    (case l24 => k_is)
    (case c24 => k_is)
    (case k24 => k_is)
    (case a25 => k_is)
    (case l25 => k_is)
    (case c25 => k_is)
    (case k25 => k_is)
    (case a26 => k_is)
    (case l26 => k_is)
    (case c26 => k_is)
    (case k26 => k_is)
    (case a27 => k_is)
    (case l27 => k_is)
    (case c27 => k_is)
    (case k27 => k_is)
    (case a28 => k_is)
    (case l28 => k_is)
    (case c28 => k_is)
    (case k28 => k_is)
    (case a29 => k_is)
    (case l29 => k_is)
    (case c29 => k_is)
    (case k29 => k_is)
    (case a30 => k_is)
    (case l30 => k_is)
    (case c30 => k_is)
    (case k30 => k_is)
    (case a31 => k_is)
    (case l31 => k_is)
    (case c31 => k_is)
    (case k31 => k_is)
    (case a32 => k_is)
    (case l32 => k_is)
    (case c32 => k_is)
    (case k32 => k_is)
    (case a33 => k_is)
    (case l33 => k_is)
    (case c33 => k_is)
    (case k33 => k_is)
    (case z0 => k_is)
    (case z1 => k_is)
    (case z2 => k_is)
    (case z3 => k_is)
    (case z4 => k_is)
    (case z5 => k_is)
    (case z6 => k_is)
    (case z7 => k_is)
    (case z8 => k_is)
    (case z9 => k_is)
    (case z10 => k_is)
    (case q0 => k_is)
    (case q1 => k_is)

