import PyProof.Rows.All
import Wide.All
import OpenK.AllK
import Wide.FinOn
import KE.KStateDown
import Lean
import HandS.Head0
import HandS.Head1
import HandS.Head2
import HandS.HeadEnd
import HandS.HeadHook1
import HandS.HeadHook2
import HandS.HeadNt
import PyProof.EqAt
import PyProof.EqKinds
import PyProof.TupleCall
import KE.KExcSuper
import KE.KSuper
import HandS.ForExc
import HandS.ExcSuper
import HandS.ExcInit
import HandS.ForMost
import HandS.Conv
import HandS.Deep
import HandS.Style
import HandS.ClsMeth
import PySem.Challenge.RW_beadmoot_k34_whole_good_books
import KE.SortData
import HandS.SortInts
import KE.KDictWalk
import HandS.SetKeys
import HandS.Iter
import HandS.SetBool
import HandS.SetFor
import HandS.Strs
import HandS.ExcOwn
import OpenK.KMore

/-! text BmFz -/
set_option Elab.async false
set_option linter.all false
set_option maxRecDepth 100000
set_option maxHeartbeats 4000000
/-! Fz: what the readings of the hand layer come to over plain data: an environment of slots, a frame of objects that never change again. -/
namespace Fz
open PySem L2

/-! ### heaps -/
def Ex (H H' : Hp) : Prop := ∀ a o, H a = some o → H' a = some o
theorem Ex.refl (H : Hp) : Ex H H := fun _ _ h => h
theorem Ex.trans {H H1 H2 : Hp} (a : Ex H H1) (b : Ex H1 H2) : Ex H H2 := fun x o h => b x o (a x o h)
theorem Ex.free {H H' : Hp} (e : Ex H H') {p : Addr} (h : H' p = none) : H p = none := by
  cases h1 : H p with
  | none => rfl
  | some o => rw [e p o h1] at h; cases h
theorem Ex.new {H : Hp} {p : Addr} {o : HO} (h : H p = none) : Ex H (upd H p o) := fun a u e => by
  rw [upd_ne (ne_of_none e h)]; exact e
theorem Ex.mut {H H' : Hp} {p : Addr} {o : HO} (e : Ex H H') (h : H p = none) : Ex H (upd H' p o) := fun a u ha => by
  rw [upd_ne (ne_of_none ha h)]; exact e a u ha
/-- F: the objects that never change again; new ones of F' are new to H -/
structure Gr (F H F' H' : Hp) : Prop where
  f : Ex F F'
  h : Ex H H'
  s : Ex F' H'
  n : ∀ a, F' a ≠ none → F a ≠ none ∨ H a = none
section
variable {F H F1 H1 F2 H2 F0 H0 : Hp} {p : Addr} {o : HO}
theorem Gr.refl (e : Ex F H) : Gr F H F H := ⟨Ex.refl F, Ex.refl H, e, fun _ h => .inl h⟩
theorem Gr.trans (a : Gr F H F1 H1) (b : Gr F1 H1 F2 H2) : Gr F H F2 H2 := ⟨a.f.trans b.f, a.h.trans b.h, b.s, fun x h => by
  rcases b.n x h with q | q
  · exact a.n x q
  · exact .inr (a.h.free q)⟩
theorem Gr.keep (a : Gr F H F1 H1) (hF : F p = none) (hH : H p ≠ none) : F1 p = none := by
  cases h : F1 p with
  | none => rfl
  | some u =>
    rcases a.n p (by rw [h]; exact fun z => nomatch z) with q | q
    · exact absurd hF q
    · exact absurd q hH
theorem Gr.up (a : Gr F0 H0 F H) (e : Ex H H1) : Gr F0 H0 F H1 := ⟨a.f, a.h.trans e, a.s.trans e, a.n⟩
theorem Gr.new (e : Ex F H) (hp : H p = none) : Gr F H (upd F p o) (upd H p o) := ⟨Ex.new (e.free hp), Ex.new hp, fun a u h => by
    by_cases q : a = p
    · subst q; rw [upd_same] at h ⊢; exact h
    · rw [upd_ne q] at h ⊢; exact e a u h, fun a h => by
    by_cases q : a = p
    · subst q; exact .inr hp
    · rw [upd_ne q] at h; exact .inl h⟩
theorem Gr.newO (e : Ex F H) (hp : H p = none) : Gr F H F (upd H p o) := ⟨Ex.refl F, Ex.new hp, e.trans (Ex.new hp), fun _ h => .inl h⟩
theorem Gr.put (g : Gr F0 H0 F H) (hF : F p = none) (h0 : H0 p = none) : Gr F0 H0 F (upd H p o) := ⟨g.f, g.h.mut h0, g.s.mut hF, g.n⟩
theorem Gr.freeze (g : Gr F0 H0 F H) (hF : F p = none) (h0 : H0 p = none) (h : H p = some o) : Gr F0 H0 (upd F p o) H := ⟨g.f.trans (Ex.new hF), g.h, fun a u q => by
    by_cases z : a = p
    · subst z; rw [upd_same] at q; rw [← q]; exact h
    · rw [upd_ne z] at q; exact g.s a u q, fun a q => by
    by_cases z : a = p
    · subst z; exact .inr h0
    · rw [upd_ne z] at q; exact g.n a q⟩
end

/-! ### data -/
mutual
inductive Dn (F : Hp) : V → PyData → Prop
  | non : Dn F .non .none
  | bl (b : Bool) : Dn F (.bl b) (.bool b)
  | int (i : Int) : Dn F (.int i) (.int i)
  | str (x : Str) : Dn F (.str x) (.str x)
  | lst {a : Addr} {xs : List V} {ds : List PyData} : F a = some (.lst xs) → DnA F xs ds → Dn F (.ref a) (.list ds)
  | tup {a : Addr} {xs : List V} {ds : List PyData} : F a = some (.tup xs) → DnA F xs ds → Dn F (.ref a) (.tuple ds)
inductive DnA (F : Hp) : List V → List PyData → Prop
  | nil : DnA F [] []
  | cons {v : V} {vs : List V} {d : PyData} {ds : List PyData} : Dn F v d → DnA F vs ds → DnA F (v :: vs) (d :: ds)
end
section
variable {F F' H : Hp}
mutual
theorem Dn.up (e : Ex F F') : ∀ (d : PyData) (v : V), Dn F v d → Dn F' v d
  | .none, _, h => by cases h; exact .non
  | .bool b, _, h => by cases h; exact .bl b
  | .int i, _, h => by cases h; exact .int i
  | .str x, _, h => by cases h; exact .str x
  | .list ds, _, h => by
    cases h with
    | lst h1 h2 => exact .lst (e _ _ h1) (DnA.up e ds _ h2)
  | .tuple ds, _, h => by
    cases h with
    | tup h1 h2 => exact .tup (e _ _ h1) (DnA.up e ds _ h2)
  | .dict _, _, h => by cases h
theorem DnA.up (e : Ex F F') : ∀ (ds : List PyData) (vs : List V), DnA F vs ds → DnA F' vs ds
  | [], _, h => by cases h; exact .nil
  | d :: ds, _, h => by
    cases h with
    | cons h1 h2 => exact .cons (Dn.up e d _ h1) (DnA.up e ds _ h2)
end
mutual
theorem Dn.dp {K : PySem.W.Frag} : ∀ (d : PyData) (v : V), Dn F v d → Dp K F v d
  | .none, _, h => by cases h; exact .non
  | .bool b, _, h => by cases h; exact .bl b
  | .int i, _, h => by cases h; exact .int i
  | .str x, _, h => by cases h; exact .str x
  | .list ds, _, h => by
    cases h with
    | lst h1 h2 => exact .lst (SqL.of h1) (DnA.dp ds _ h2)
  | .tuple ds, _, h => by
    cases h with
    | tup h1 h2 => exact .tup (SqT.of h1) (DnA.dp ds _ h2)
  | .dict _, _, h => by cases h
theorem DnA.dp {K : PySem.W.Frag} : ∀ (ds : List PyData) (vs : List V), DnA F vs ds → DpAll K F vs ds
  | [], _, h => by cases h; exact .nil
  | d :: ds, _, h => by
    cases h with
    | cons h1 h2 => exact .cons (Dn.dp d _ h1) (DnA.dp ds _ h2)
end
theorem DnA.len : ∀ {vs : List V} {ds : List PyData}, DnA F vs ds → vs.length = ds.length
  | _, _, .nil => rfl
  | _, _, .cons _ h => by simp [DnA.len h]
theorem DnA.get : ∀ {vs : List V} {ds : List PyData} {i : Nat} {d : PyData}, DnA F vs ds → ds[i]? = some d → ∃ v, vs[i]? = some v ∧ Dn F v d
  | _, _, _, _, .nil, h => by simp at h
  | _, _, 0, d, .cons h1 _, h => by simp at h; subst h; exact ⟨_, rfl, h1⟩
  | _, _, i + 1, d, .cons _ h2, h => by
    obtain ⟨v, a, b⟩ := DnA.get (i := i) (d := d) h2 (by simpa using h)
    exact ⟨v, by simpa using a, b⟩
theorem DnA.getv : ∀ {vs : List V} {ds : List PyData} {i : Nat} {v : V}, DnA F vs ds → vs[i]? = some v → ∃ d, ds[i]? = some d ∧ Dn F v d
  | _, _, _, _, .nil, h => by simp at h
  | _, _, 0, d, .cons h1 _, h => by simp at h; subst h; exact ⟨_, rfl, h1⟩
  | _, _, i + 1, d, .cons _ h2, h => by
    obtain ⟨v, a, b⟩ := DnA.getv (i := i) (v := d) h2 (by simpa using h)
    exact ⟨v, by simpa using a, b⟩
theorem DnA.app : ∀ {vs ws : List V} {ds es : List PyData}, DnA F vs ds → DnA F ws es → DnA F (vs ++ ws) (ds ++ es)
  | _, _, _, _, .nil, h => h
  | _, _, _, _, .cons h1 h2, h => .cons h1 (DnA.app h2 h)
theorem DnA.take : ∀ {vs : List V} {ds : List PyData} (n : Nat), DnA F vs ds → DnA F (vs.take n) (ds.take n)
  | _, _, 0, _ => by simpa using .nil
  | _, _, _ + 1, .nil => .nil
  | _, _, n + 1, .cons h1 h2 => .cons h1 (DnA.take n h2)
theorem DnA.drop : ∀ {vs : List V} {ds : List PyData} (n : Nat), DnA F vs ds → DnA F (vs.drop n) (ds.drop n)
  | _, _, 0, h => by simpa using h
  | _, _, _ + 1, .nil => .nil
  | _, _, n + 1, .cons h1 h2 => DnA.drop n h2
theorem DnA.set : ∀ {vs : List V} {ds : List PyData} (i : Nat) {v : V} {d : PyData}, DnA F vs ds → Dn F v d → DnA F (vs.set i v) (ds.set i d)
  | _, _, _, _, _, .nil, _ => .nil
  | _, _, 0, _, _, .cons _ h2, h => .cons h h2
  | _, _, i + 1, _, _, .cons h1 h2, h => .cons h1 (DnA.set i h2 h)
theorem DnA.rev : ∀ {vs : List V} {ds : List PyData}, DnA F vs ds → DnA F vs.reverse ds.reverse
  | _, _, .nil => .nil
  | _, _, .cons h1 h2 => by
    rw [List.reverse_cons, List.reverse_cons]
    exact (DnA.rev h2).app (.cons h1 .nil)
theorem DnA.ints : ∀ ns : List Int, DnA F (ns.map V.int) (ns.map PyData.int)
  | [] => .nil
  | n :: ns => .cons (.int n) (DnA.ints ns)
theorem DnA.toInts : ∀ {ns : List Int} {vs : List V}, DnA F vs (ns.map PyData.int) → vs = ns.map V.int
  | [], _, h => by cases h; rfl
  | n :: ns, _, h => by
    cases h with
    | cons h1 h2 => cases h1; rw [DnA.toInts h2]; rfl
theorem DnA.rep {v : V} {d : PyData} (h : Dn F v d) : ∀ n : Nat, DnA F (List.replicate n v) (List.replicate n d)
  | 0 => .nil
  | n + 1 => .cons h (DnA.rep h n)
end
/-- a flat datum holds in every heap -/
def flatD : PyData → Bool
  | .none => true | .bool _ => true | .int _ => true | .str _ => true | _ => false
theorem Dn.flat {F F' : Hp} {v : V} {d : PyData} (hd : flatD d = true) (h : Dn F v d) : Dn F' v d := by
  cases h with
  | non => exact .non
  | bl b => exact .bl b
  | int i => exact .int i
  | str x => exact .str x
  | lst _ _ => cases hd
  | tup _ _ => cases hd
theorem DnA.flat {F F' : Hp} : ∀ {ds : List PyData} {vs : List V}, ds.all flatD = true → DnA F vs ds → DnA F' vs ds
  | [], _, _, h => by cases h; exact .nil
  | d :: ds, _, hd, h => by
    cases h with
    | cons h1 h2 =>
      rw [List.all_cons, Bool.and_eq_true] at hd
      exact .cons (Dn.flat hd.1 h1) (DnA.flat hd.2 h2)

/-! ### what is said of a value -/
structure Pr where
  p : V → Hp → Prop
  up : ∀ {v : V} {F F' : Hp}, Ex F F' → p v F → p v F'
def D (d : PyData) : Pr := ⟨fun v F => Dn F v d, fun e h => Dn.up e d _ h⟩
/-- nothing is said -/
def Any : Pr := ⟨fun _ _ => True, fun _ _ => True.intro⟩
inductive Sl where
  | no
  | has (R : Pr)
  | own (ds : List PyData)
  | ins (a C : Addr) (fr : List (Str × Pr))
def FrOk (F : Hp) : List (Str × V) → List (Str × Pr) → Prop
  | [], [] => True
  | p :: ps, q :: qs => p.1 = q.1 ∧ q.2.p p.2 F ∧ FrOk F ps qs
  | _, _ => False
theorem FrOk.up {F F' : Hp} (e : Ex F F') : ∀ {fs : List (Str × V)} {fr : List (Str × Pr)}, FrOk F fs fr → FrOk F' fs fr
  | [], [], _ => True.intro
  | p :: ps, q :: qs, ⟨h1, h2, h3⟩ => ⟨h1, q.2.up e h2, FrOk.up e h3⟩
  | [], _ :: _, h => h.elim
  | _ :: _, [], h => h.elim
theorem FrOk.look {F : Hp} {f : Str} {R : Pr} : ∀ {fs : List (Str × V)} {fr : List (Str × Pr)}, FrOk F fs fr → fr.lookup f = some R → ∃ v, fs.lookup f = some v ∧ R.p v F
  | [], [], _, h => by cases h
  | (g, v) :: ps, (g', R') :: qs, ⟨h1, h2, h3⟩, h => by
    have h1 : g = g' := h1
    subst h1
    by_cases z : (f == g) = true
    · have e : List.lookup f ((g, R') :: qs) = some R' := by simp only [List.lookup, z]
      rw [e] at h
      cases h
      exact ⟨v, by simp only [List.lookup, z], h2⟩
    · have z' : (f == g) = false := by simpa using z
      have e : List.lookup f ((g, R') :: qs) = qs.lookup f := by simp only [List.lookup, z']
      rw [e] at h
      obtain ⟨w, a, b⟩ := FrOk.look h3 h
      exact ⟨w, by simp only [List.lookup, z']; exact a, b⟩
  | [], _ :: _, h, _ => h.elim
  | _ :: _, [], h, _ => h.elim
theorem FrOk.put {F : Hp} {f : Str} {v : V} {R : Pr} (hv : R.p v F) : ∀ {fs : List (Str × V)} {fr : List (Str × Pr)}, FrOk F fs fr → (fr.all fun q => decide (q.1 ≠ f)) = true → FrOk F (putF f v fs) (fr ++ [(f, R)])
  | [], [], _, _ => ⟨rfl, hv, True.intro⟩
  | (g, w) :: ps, (g', R') :: qs, ⟨h1, h2, h3⟩, h => by
    have h1 : g = g' := h1
    subst h1
    rw [List.all_cons, Bool.and_eq_true] at h
    have ne : g ≠ f := of_decide_eq_true h.1
    show FrOk F (if g = f then (g, v) :: ps else (g, w) :: putF f v ps) _
    rw [if_neg ne]
    exact ⟨rfl, h2, FrOk.put hv h3 h.2⟩
  | [], _ :: _, h, _ => h.elim
  | _ :: _, [], h, _ => h.elim
theorem FrOk.length {F : Hp} : ∀ {fs : List (Str × V)} {fr : List (Str × Pr)}, FrOk F fs fr → fs.length = fr.length
  | [], [], _ => rfl
  | _ :: ps, _ :: qs, ⟨_, _, h⟩ => by simp [FrOk.length h]
  | [], _ :: _, h => h.elim
  | _ :: _, [], h => h.elim
def Ownd (env : List Sl) (i : Nat) : Prop := (∃ ds, env[i]? = some (.own ds)) ∨ ∃ a C fr, env[i]? = some (.ins a C fr)
structure Ok (H0 F H : Hp) (σ : L2.St) (env : List Sl) : Prop where
  ex : Ex F H
  has : ∀ (i : Nat) (R : Pr), env[i]? = some (.has R) → ∃ v, σ[i]? = some (some v) ∧ R.p v F
  own : ∀ (i : Nat) (ds : List PyData), env[i]? = some (.own ds) → ∃ a xs, σ[i]? = some (some (.ref a)) ∧ H a = some (.lst xs) ∧ F a = none ∧ H0 a = none ∧ DnA F xs ds
  ins : ∀ (i : Nat) (a C : Addr) (fr : List (Str × Pr)), env[i]? = some (.ins a C fr) → ∃ dx fs, σ[i]? = some (some (.ref a)) ∧ H a = some (.ins C dx fs) ∧ F a = none ∧ H0 a = none ∧ FrOk F fs fr
  ap : ∀ (i j : Nat) (a : Addr), i ≠ j → Ownd env i → Ownd env j → σ[i]? = some (some (.ref a)) → σ[j]? = some (some (.ref a)) → False
  len : env.length = σ.length
section
variable {H0 F H F' H' : Hp} {σ : L2.St} {env : List Sl} {i : Nat} {R : Pr} {ds : List PyData}
theorem Ok.gr (k : Ok H0 F H σ env) (g : Gr F H F' H') : Ok H0 F' H' σ env where
  ex := g.s
  has := fun i R h => let ⟨v, a, b⟩ := k.has i R h; ⟨v, a, R.up g.f b⟩
  own := fun i ds h => by
    obtain ⟨a, xs, h1, h2, h3, h4, h5⟩ := k.own i ds h
    exact ⟨a, xs, h1, g.h _ _ h2, g.keep h3 (by rw [h2]; exact fun z => nomatch z), h4, DnA.up g.f _ _ h5⟩
  ins := fun i a C fr h => by
    obtain ⟨dx, fs, h1, h2, h3, h4, h5⟩ := k.ins i a C fr h
    exact ⟨dx, fs, h1, g.h _ _ h2, g.keep h3 (by rw [h2]; exact fun z => nomatch z), h4, FrOk.up g.f h5⟩
  ap := k.ap
  len := k.len
theorem Ownd.of_set {s : Sl} {j : Nat} (h : Ownd (env.set i s) j) (hij : j ≠ i) : Ownd env j := by
  rcases h with ⟨ds, h⟩ | ⟨b, C, fr, h⟩
  · rw [List.getElem?_set_ne (Ne.symm hij)] at h; exact .inl ⟨ds, h⟩
  · rw [List.getElem?_set_ne (Ne.symm hij)] at h; exact .inr ⟨b, C, fr, h⟩
theorem get_set {α : Type} {l : List α} {i j : Nat} {x y : α} (h : (l.set i x)[j]? = some y) : (j = i ∧ x = y) ∨ (j ≠ i ∧ l[j]? = some y) := by
  by_cases q : j = i
  · subst q
    left
    refine ⟨rfl, ?_⟩
    by_cases z : j < l.length
    · rw [List.getElem?_set_self z] at h; exact Option.some.inj h
    · rw [List.getElem?_eq_none (by rw [List.length_set]; omega)] at h; cases h
  · exact .inr ⟨q, by rwa [List.getElem?_set_ne (Ne.symm q)] at h⟩
theorem nown {s : Sl} (h : Ownd (env.set i s) i) (h1 : ∀ ds, s ≠ .own ds) (h2 : ∀ b C fr, s ≠ .ins b C fr) : False := by
  rcases h with ⟨ds, h⟩ | ⟨b, C, fr, h⟩
  · rcases get_set h with ⟨_, q⟩ | ⟨e, _⟩
    · exact h1 _ q
    · exact e rfl
  · rcases get_set h with ⟨_, q⟩ | ⟨e, _⟩
    · exact h2 _ _ _ q
    · exact e rfl
/-- a value is stored -/
theorem Ok.setH (k : Ok H0 F H σ env) {v : V} (hv : R.p v F) : Ok H0 F H (σ.set i (some v)) (env.set i (.has R)) where
  ex := k.ex
  has := fun j R' h => by
    rcases get_set h with ⟨e, q⟩ | ⟨e, q⟩
    · subst e
      cases q
      have hl : j < σ.length := by
        rw [← k.len]
        have := (List.getElem?_eq_some_iff.mp h).1
        rwa [List.length_set] at this
      exact ⟨v, by rw [List.getElem?_set_self hl], hv⟩
    · rw [List.getElem?_set_ne (Ne.symm e)]; exact k.has j R' q
  own := fun j ds h => by
    rcases get_set h with ⟨e, q⟩ | ⟨e, q⟩
    · cases q
    · rw [List.getElem?_set_ne (Ne.symm e)]; exact k.own j ds q
  ins := fun j b C fr h => by
    rcases get_set h with ⟨e, q⟩ | ⟨e, q⟩
    · cases q
    · rw [List.getElem?_set_ne (Ne.symm e)]; exact k.ins j b C fr q
  ap := fun j l a hjl h1 h2 h3 h4 => by
    have n1 : j ≠ i := fun e => by
      subst e
      exact nown h1 (fun _ z => by cases z) (fun _ _ _ z => by cases z)
    have n2 : l ≠ i := fun e => by
      subst e
      exact nown h2 (fun _ z => by cases z) (fun _ _ _ z => by cases z)
    rw [List.getElem?_set_ne (Ne.symm n1)] at h3
    rw [List.getElem?_set_ne (Ne.symm n2)] at h4
    exact k.ap j l a hjl (h1.of_set n1) (h2.of_set n2) h3 h4
  len := by rw [List.length_set, List.length_set]; exact k.len
/-- a slot is forgotten -/
theorem Ok.setN (k : Ok H0 F H σ env) {x : Option V} : Ok H0 F H (σ.set i x) (env.set i .no) where
  ex := k.ex
  has := fun j R' h => by
    rcases get_set h with ⟨e, q⟩ | ⟨e, q⟩
    · cases q
    · rw [List.getElem?_set_ne (Ne.symm e)]; exact k.has j R' q
  own := fun j ds h => by
    rcases get_set h with ⟨e, q⟩ | ⟨e, q⟩
    · cases q
    · rw [List.getElem?_set_ne (Ne.symm e)]; exact k.own j ds q
  ins := fun j b C fr h => by
    rcases get_set h with ⟨e, q⟩ | ⟨e, q⟩
    · cases q
    · rw [List.getElem?_set_ne (Ne.symm e)]; exact k.ins j b C fr q
  ap := fun j l a hjl h1 h2 h3 h4 => by
    have n1 : j ≠ i := fun e => by
      subst e
      exact nown h1 (fun _ z => by cases z) (fun _ _ _ z => by cases z)
    have n2 : l ≠ i := fun e => by
      subst e
      exact nown h2 (fun _ z => by cases z) (fun _ _ _ z => by cases z)
    rw [List.getElem?_set_ne (Ne.symm n1)] at h3
    rw [List.getElem?_set_ne (Ne.symm n2)] at h4
    exact k.ap j l a hjl (h1.of_set n1) (h2.of_set n2) h3 h4
  len := by rw [List.length_set, List.length_set]; exact k.len
/-- a new list, owned -/
theorem Ok.setO (k : Ok H0 F H σ env) {a : Addr} {xs : List V} (ha : H a = some (.lst xs)) (hF : F a = none) (h0 : H0 a = none) (hd : DnA F xs ds) (hne : ∀ j : Nat, j ≠ i → Ownd env j → σ[j]? ≠ some (some (.ref a))) :
    Ok H0 F H (σ.set i (some (.ref a))) (env.set i (.own ds)) where
  ex := k.ex
  has := fun j R' h => by
    rcases get_set h with ⟨e, q⟩ | ⟨e, q⟩
    · cases q
    · rw [List.getElem?_set_ne (Ne.symm e)]; exact k.has j R' q
  own := fun j es h => by
    rcases get_set h with ⟨e, q⟩ | ⟨e, q⟩
    · subst e
      cases q
      have hl : j < σ.length := by
        rw [← k.len]
        have := (List.getElem?_eq_some_iff.mp h).1
        rwa [List.length_set] at this
      exact ⟨a, xs, by rw [List.getElem?_set_self hl], ha, hF, h0, hd⟩
    · rw [List.getElem?_set_ne (Ne.symm e)]; exact k.own j es q
  ins := fun j b C fr h => by
    rcases get_set h with ⟨e, q⟩ | ⟨e, q⟩
    · cases q
    · rw [List.getElem?_set_ne (Ne.symm e)]; exact k.ins j b C fr q
  ap := fun j l b hjl h1 h2 h3 h4 => by
    by_cases n1 : j = i
    · subst n1
      have n2 : l ≠ j := Ne.symm hjl
      rw [List.getElem?_set_ne (Ne.symm n2)] at h4
      have eb : a = b := by
        rw [List.getElem?_set] at h3
        split at h3
        · split at h3
          · cases h3; rfl
          · cases h3
        · rename_i q; exact absurd rfl q
      subst eb
      exact hne l n2 (h2.of_set n2) h4
    · rw [List.getElem?_set_ne (Ne.symm n1)] at h3
      by_cases n2 : l = i
      · subst n2
        have eb : a = b := by
          rw [List.getElem?_set] at h4
          split at h4
          · split at h4
            · cases h4; rfl
            · cases h4
          · rename_i q; exact absurd rfl q
        subst eb
        exact hne j n1 (h1.of_set n1) h3
      · rw [List.getElem?_set_ne (Ne.symm n2)] at h4
        exact k.ap j l b hjl (h1.of_set n1) (h2.of_set n2) h3 h4
  len := by rw [List.length_set, List.length_set]; exact k.len
/-- an owned list changes -/
theorem Ok.mutO (k : Ok H0 F H σ env) (hi : env[i]? = some (.own ds)) {a : Addr} {xs' : List V} {ds' : List PyData} (hs : σ[i]? = some (some (.ref a))) (hd : DnA F xs' ds') : Ok H0 F (upd H a (.lst xs')) σ (env.set i (.own ds')) := by
  obtain ⟨a', xs, h1, h2, h3, h4, h5⟩ := k.own i ds hi
  rw [hs] at h1
  cases h1
  have hl : i < env.length := (List.getElem?_eq_some_iff.mp hi).1
  have oi : Ownd env i := .inl ⟨ds, hi⟩
  refine ⟨k.ex.mut h3, fun j R' h => ?_, fun j es h => ?_, fun j b C fr h => ?_, fun j l b hjl o1 o2 q1 q2 => ?_, by rw [List.length_set]; exact k.len⟩
  · rcases get_set h with ⟨e, q⟩ | ⟨e, q⟩
    · cases q
    · exact k.has j R' q
  · rcases get_set h with ⟨e, q⟩ | ⟨e, q⟩
    · subst e
      cases q
      exact ⟨a, xs', hs, upd_same, h3, h4, hd⟩
    · obtain ⟨b, ys, p1, p2, p3, p4, p5⟩ := k.own j es q
      have nb : b ≠ a := fun z => by subst z; exact k.ap j i b e (.inl ⟨es, q⟩) oi p1 hs
      exact ⟨b, ys, p1, by rw [upd_ne nb]; exact p2, p3, p4, p5⟩
  · rcases get_set h with ⟨e, q⟩ | ⟨e, q⟩
    · cases q
    · obtain ⟨dx, fs, p1, p2, p3, p4, p5⟩ := k.ins j b C fr q
      have nb : b ≠ a := fun z => by subst z; exact k.ap j i b e (.inr ⟨b, C, fr, q⟩) oi p1 hs
      exact ⟨dx, fs, p1, by rw [upd_ne nb]; exact p2, p3, p4, p5⟩
  · have o1' : Ownd env j := by
      by_cases e : j = i
      · subst e; exact oi
      · exact o1.of_set e
    have o2' : Ownd env l := by
      by_cases e : l = i
      · subst e; exact oi
      · exact o2.of_set e
    exact k.ap j l b hjl o1' o2' q1 q2
/-- an owned instance changes -/
theorem Ok.mutI (k : Ok H0 F H σ env) {a C : Addr} {fr fr' : List (Str × Pr)} (hi : env[i]? = some (.ins a C fr)) {dx : Addr} {fs' : List (Str × V)} (hd : FrOk F fs' fr') :
    Ok H0 F (upd H a (.ins C dx fs')) σ (env.set i (.ins a C fr')) := by
  obtain ⟨dx', xs, hs, h2, h3, h4, h5⟩ := k.ins i a C fr hi
  have oi : Ownd env i := .inr ⟨a, C, fr, hi⟩
  refine ⟨k.ex.mut h3, fun j R' h => ?_, fun j es h => ?_, fun j b C' fr'' h => ?_, fun j l b hjl o1 o2 q1 q2 => ?_, by rw [List.length_set]; exact k.len⟩
  · rcases get_set h with ⟨e, q⟩ | ⟨e, q⟩
    · cases q
    · exact k.has j R' q
  · rcases get_set h with ⟨e, q⟩ | ⟨e, q⟩
    · cases q
    · obtain ⟨b, ys, p1, p2, p3, p4, p5⟩ := k.own j es q
      have nb : b ≠ a := fun z => by subst z; exact k.ap j i b e (.inl ⟨es, q⟩) oi p1 hs
      exact ⟨b, ys, p1, by rw [upd_ne nb]; exact p2, p3, p4, p5⟩
  · rcases get_set h with ⟨e, q⟩ | ⟨e, q⟩
    · subst e
      cases q
      exact ⟨dx, fs', hs, upd_same, h3, h4, hd⟩
    · obtain ⟨dx2, fs, p1, p2, p3, p4, p5⟩ := k.ins j b C' fr'' q
      have nb : b ≠ a := fun z => by subst z; exact k.ap j i b e (.inr ⟨b, C', fr'', q⟩) oi p1 hs
      exact ⟨dx2, fs, p1, by rw [upd_ne nb]; exact p2, p3, p4, p5⟩
  · have o1' : Ownd env j := by
      by_cases e : j = i
      · subst e; exact oi
      · exact o1.of_set e
    have o2' : Ownd env l := by
      by_cases e : l = i
      · subst e; exact oi
      · exact o2.of_set e
    exact k.ap j l b hjl o1' o2' q1 q2
/-- an owned list is never changed again -/
theorem Ok.freeze (k : Ok H0 F H σ env) (hi : env[i]? = some (.own ds)) : ∃ a xs, σ[i]? = some (some (.ref a)) ∧ H a = some (.lst xs) ∧ F a = none ∧ H0 a = none ∧ Ok H0 (upd F a (.lst xs)) H σ (env.set i (.has (D (.list ds)))) := by
  obtain ⟨a, xs, h1, h2, h3, h4, h5⟩ := k.own i ds hi
  have oi : Ownd env i := .inl ⟨ds, hi⟩
  have e1 : Ex F (upd F a (.lst xs)) := Ex.new h3
  refine ⟨a, xs, h1, h2, h3, h4, ⟨fun b u q => ?_, fun j R' h => ?_, fun j es h => ?_, fun j b C fr h => ?_, fun j l b hjl o1 o2 q1 q2 => ?_, by rw [List.length_set]; exact k.len⟩⟩
  · by_cases z : b = a
    · subst z; rw [upd_same] at q; rw [← q]; exact h2
    · rw [upd_ne z] at q; exact k.ex b u q
  · rcases get_set h with ⟨e, q⟩ | ⟨e, q⟩
    · subst e
      cases q
      exact ⟨.ref a, h1, .lst upd_same (DnA.up e1 _ _ h5)⟩
    · obtain ⟨v, p1, p2⟩ := k.has j R' q
      exact ⟨v, p1, R'.up e1 p2⟩
  · rcases get_set h with ⟨e, q⟩ | ⟨e, q⟩
    · cases q
    · obtain ⟨b, ys, p1, p2, p3, p4, p5⟩ := k.own j es q
      have nb : b ≠ a := fun z => by subst z; exact k.ap j i b e (.inl ⟨es, q⟩) oi p1 h1
      exact ⟨b, ys, p1, p2, by rw [upd_ne nb]; exact p3, p4, DnA.up e1 _ _ p5⟩
  · rcases get_set h with ⟨e, q⟩ | ⟨e, q⟩
    · cases q
    · obtain ⟨dx, fs, p1, p2, p3, p4, p5⟩ := k.ins j b C fr q
      have nb : b ≠ a := fun z => by subst z; exact k.ap j i b e (.inr ⟨b, C, fr, q⟩) oi p1 h1
      exact ⟨dx, fs, p1, p2, by rw [upd_ne nb]; exact p3, p4, FrOk.up e1 p5⟩
  · have n1 : j ≠ i := fun e => by
      subst e
      exact nown o1 (fun _ z => by cases z) (fun _ _ _ z => by cases z)
    have n2 : l ≠ i := fun e => by
      subst e
      exact nown o2 (fun _ z => by cases z) (fun _ _ _ z => by cases z)
    exact k.ap j l b hjl (o1.of_set n1) (o2.of_set n2) q1 q2
end
end Fz

/-! text BmEv -/
set_option Elab.async false
set_option linter.all false
set_option maxRecDepth 100000
set_option maxHeartbeats 4000000
namespace Fz
open PySem L2

/-! ### what evaluates to what -/
def EvR (te : TE) (env : List Sl) (R : Pr) : Prop := ∀ (H0 F H : Hp) (σ : L2.St), Ok H0 F H σ env → Ex H0 H → ∀ Q : VK, (∀ v F' H', Gr F H F' H' → R.p v F' → Q v H') → te σ H Q
def EvT (tt : TT) (env : List Sl) (b : Bool) : Prop := ∀ (H0 F H : Hp) (σ : L2.St), Ok H0 F H σ env → Ex H0 H → ∀ Q : Bool → Hp → Prop, (∀ F' H', Gr F H F' H' → Q b H') → tt σ H Q
def AllP : List V → List Pr → Hp → Prop
  | [], [], _ => True
  | v :: vs, R :: Rs, F => R.p v F ∧ AllP vs Rs F
  | _, _, _ => False
def EvAs (ta : TA) (env : List Sl) (Rs : List Pr) : Prop := ∀ (H0 F H : Hp) (σ : L2.St), Ok H0 F H σ env → Ex H0 H → ∀ Q : List V → Hp → Prop, (∀ vs F' H', Gr F H F' H' → AllP vs Rs F' → Q vs H') → ta σ H Q
/-- a new list -/
def EvN (te : TE) (env : List Sl) (ds : List PyData) : Prop := ∀ (H0 F H : Hp) (σ : L2.St), Ok H0 F H σ env → Ex H0 H → ∀ Q : VK,
  (∀ a xs F' H', Gr F H F' H' → H a = none → F' a = none → H' a = some (.lst xs) → DnA F' xs ds → Q (.ref a) H') → te σ H Q
def EvO (to : TO) (env : List Sl) (o : Option Int) : Prop := ∀ (H0 F H : Hp) (σ : L2.St), Ok H0 F H σ env → Ex H0 H → ∀ Q : Option Int → Hp → Prop, (∀ F' H', Gr F H F' H' → Q o H') → to σ H Q
theorem AllP.up {F F' : Hp} (e : Ex F F') : ∀ {vs : List V} {Rs : List Pr}, AllP vs Rs F → AllP vs Rs F'
  | [], [], _ => True.intro
  | _ :: _, R :: _, ⟨h1, h2⟩ => ⟨R.up e h1, AllP.up e h2⟩
  | [], _ :: _, h => h.elim
  | _ :: _, [], h => h.elim
theorem AllP.dn {F : Hp} : ∀ {vs : List V} {ds : List PyData}, AllP vs (ds.map D) F → DnA F vs ds
  | [], [], _ => .nil
  | _ :: _, _ :: _, ⟨h1, h2⟩ => .cons h1 (AllP.dn h2)
  | [], _ :: _, h => h.elim
  | _ :: _, [], h => h.elim
theorem AllP.len {F : Hp} : ∀ {vs : List V} {Rs : List Pr}, AllP vs Rs F → vs.length = Rs.length
  | [], [], _ => rfl
  | _ :: _, _ :: _, ⟨_, h2⟩ => by simp [AllP.len h2]
  | [], _ :: _, h => h.elim
  | _ :: _, [], h => h.elim
theorem dn_int {F : Hp} {v : V} {i : Int} (h : Dn F v (.int i)) : v = .int i := by cases h; rfl
theorem dn_bl {F : Hp} {v : V} {b : Bool} (h : Dn F v (.bool b)) : v = .bl b := by cases h; rfl
theorem dn_str {F : Hp} {v : V} {x : Str} (h : Dn F v (.str x)) : v = .str x := by cases h; rfl
theorem dn_non {F : Hp} {v : V} (h : Dn F v .none) : v = .non := by cases h; rfl

section
variable {env : List Sl} {R R' : Pr} {ta tb te tc : TE} {d : PyData} {ds es : List PyData} {i j : Int} {b c : Bool} {k : Nat} {K : PySem.W.Frag} {tt tu : TT} {tr : TA}
theorem EvN.r (h : EvN te env ds) : EvR te env (D (.list ds)) := fun H0 F H σ o e Q q => h H0 F H σ o e Q fun a xs F' H' g hn hf hl hd =>
  q _ (upd F' a (.lst xs)) H' (g.freeze hf hn hl) (.lst upd_same (DnA.up (Ex.new hf) _ _ hd))
theorem EvR.imp (h : EvR te env R) (hi : ∀ v F, R.p v F → R'.p v F) : EvR te env R' := fun H0 F H σ o e Q q => h H0 F H σ o e Q fun v F' H' g r => q v F' H' g (hi _ _ r)
theorem evr_var (h : env[k]? = some (.has R)) : EvR (tVar k) env R := fun H0 F H σ o e Q q => by
  obtain ⟨v, h1, h2⟩ := o.has k R h
  exact ⟨v, h1, q v F H (Gr.refl o.ex) h2⟩
theorem evr_c {v : V} (h : ∀ F, Dn F v d) : EvR (tC v) env (D d) := fun H0 F H σ o e Q q => q v F H (Gr.refl o.ex) (h F)
theorem evr_int : EvR (tC (.int i)) env (D (.int i)) := evr_c fun _ => .int i
theorem evr_str {x : Str} : EvR (tC (.str x)) env (D (.str x)) := evr_c fun _ => .str x
theorem evr_bl : EvR (tC (.bl b)) env (D (.bool b)) := evr_c fun _ => .bl b
theorem evr_non : EvR (tC .non) env (D .none) := evr_c fun _ => .non
/-- two operands, then an operation by values -/
theorem ev2 {r : R2} (ha : EvR ta env R) (hb : EvR tb env R') {H0 F H : Hp} {σ : L2.St} (o : Ok H0 F H σ env) (e : Ex H0 H) {Q : VK}
    (h : ∀ x y F' H', Gr F H F' H' → R.p x F' → R'.p y F' → r x y H' Q) : tOp r ta tb σ H Q :=
  ha H0 F H σ o e _ fun x F1 H1 g1 r1 => hb H0 F1 H1 σ (o.gr g1) (e.trans g1.h) _ fun y F2 H2 g2 r2 => h x y F2 H2 (g1.trans g2) (R.up g2.f r1) r2
theorem evr_I0 {g : Int → Int → V} (ha : EvR ta env (D (.int i))) (hb : EvR tb env (D (.int j))) (hd : ∀ F, Dn F (g i j) d) : EvR (tOp (rI0 g) ta tb) env (D d) := fun H0 F H σ o e Q q =>
  ev2 ha hb o e fun x y F' H' gr hx hy => ⟨i, j, dn_int hx, dn_int hy, q _ F' H' gr (hd F')⟩
theorem evr_I {C : Int → Int → Prop} {g : Int → Int → V} (ha : EvR ta env (D (.int i))) (hb : EvR tb env (D (.int j))) (hc : C i j) (hd : ∀ F, Dn F (g i j) d) : EvR (tOp (rI C g) ta tb) env (D d) := fun H0 F H σ o e Q q =>
  ev2 ha hb o e fun x y F' H' gr hx hy => ⟨i, j, dn_int hx, dn_int hy, hc, q _ F' H' gr (hd F')⟩
theorem evr_U {g : Int → V} (ha : EvR ta env (D (.int i))) (hd : ∀ F, Dn F (g i) d) : EvR (tUn (rU g) ta) env (D d) := fun H0 F H σ o e Q q =>
  ha H0 F H σ o e _ fun x F1 H1 g1 r1 => ⟨i, dn_int r1, q _ F1 H1 g1 (hd F1)⟩
/-! tests -/
theorem evt_I0 {g : Int → Int → Bool} (ha : EvR ta env (D (.int i))) (hb : EvR tb env (D (.int j))) : EvT (tTest (tOp (rI0 fun i j => .bl (g i j)) ta tb)) env (g i j) := fun H0 F H σ o e Q q =>
  ev2 ha hb o e fun x y F' H' gr hx hy => ⟨i, j, dn_int hx, dn_int hy, _, rfl, q F' H' gr⟩
theorem evt_eqI (ha : EvR ta env (D (.int i))) (hb : EvR tb env (D (.int j))) : EvT (tTest (tOp rEq ta tb)) env (i == j) := fun H0 F H σ o e Q q =>
  ev2 ha hb o e fun x y F' H' gr hx hy => by
    rw [dn_int hx, dn_int hy]
    exact ⟨rfl, _, rfl, by rw [dec_int]; exact q F' H' gr⟩
theorem evt_neI (ha : EvR ta env (D (.int i))) (hb : EvR tb env (D (.int j))) : EvT (tTest (tOp rNe ta tb)) env (!(i == j)) := fun H0 F H σ o e Q q =>
  ev2 ha hb o e fun x y F' H' gr hx hy => by
    rw [dn_int hx, dn_int hy]
    exact ⟨rfl, _, rfl, by rw [dec_int]; exact q F' H' gr⟩
theorem evr_eqI (ha : EvR ta env (D (.int i))) (hb : EvR tb env (D (.int j))) : EvR (tOp rEq ta tb) env (D (.bool (i == j))) := fun H0 F H σ o e Q q =>
  ev2 ha hb o e fun x y F' H' gr hx hy => by
    rw [dn_int hx, dn_int hy]
    exact ⟨rfl, q _ F' H' gr (by rw [dec_int]; exact .bl _)⟩
theorem evr_neI (ha : EvR ta env (D (.int i))) (hb : EvR tb env (D (.int j))) : EvR (tOp rNe ta tb) env (D (.bool (!(i == j)))) := fun H0 F H σ o e Q q =>
  ev2 ha hb o e fun x y F' H' gr hx hy => by
    rw [dn_int hx, dn_int hy]
    exact ⟨rfl, q _ F' H' gr (by rw [dec_int]; exact .bl _)⟩
theorem evr_eqS {x y : Str} (ha : EvR ta env (D (.str x))) (hb : EvR tb env (D (.str y))) : EvR (tOp rEq ta tb) env (D (.bool (decide (x = y)))) := fun H0 F H σ o e Q q =>
  ev2 ha hb o e fun u v F' H' gr hx hy => by
    rw [dn_str hx, dn_str hy]
    refine ⟨rfl, q _ F' H' gr ?_⟩
    have e : decide (V.str x = V.str y) = decide (x = y) := by
      rw [Bool.eq_iff_iff]; simp
    rw [e]
    exact .bl _
theorem evt_of (ha : EvR te env (D (.bool b))) : EvT (tTest te) env b := fun H0 F H σ o e Q q =>
  ha H0 F H σ o e _ fun x F1 H1 g1 r1 => ⟨b, dn_bl r1, q F1 H1 g1⟩
theorem evt_B (ha : EvR te env (D (.bool b))) : EvT (tB te) env b := fun H0 F H σ o e Q q =>
  ha H0 F H σ o e _ fun x F1 H1 g1 r1 => ⟨b, dn_bl r1, q F1 H1 g1⟩
theorem evt_and (h1 : EvT tt env b) (h2 : b = true → EvT tu env c) : EvT (tAnd tt tu) env (b && c) := fun H0 F H σ o e Q q => h1 H0 F H σ o e _ fun F1 H1 g1 => by
  cases b with
  | true => exact h2 rfl H0 F1 H1 σ (o.gr g1) (e.trans g1.h) Q fun F2 H2 g2 => q F2 H2 (g1.trans g2)
  | false => exact q F1 H1 g1
theorem evt_or (h1 : EvT tt env b) (h2 : b = false → EvT tu env c) : EvT (tOr tt tu) env (b || c) := fun H0 F H σ o e Q q => h1 H0 F H σ o e _ fun F1 H1 g1 => by
  cases b with
  | true => exact q F1 H1 g1
  | false => exact h2 rfl H0 F1 H1 σ (o.gr g1) (e.trans g1.h) Q fun F2 H2 g2 => q F2 H2 (g1.trans g2)
theorem evt_not (h : EvT tt env b) : EvT (tNot tt) env (!b) := fun H0 F H σ o e Q q => h H0 F H σ o e _ fun F1 H1 g1 => q F1 H1 g1
theorem evt_is (h : EvT tt env b) (e : b = c) : EvT tt env c := e ▸ h
theorem evr_andV (h1 : EvR ta env (D (.bool b))) (h2 : b = true → EvR tb env (D (.bool c))) : EvR (tAndV ta tb) env (D (.bool (b && c))) := fun H0 F H σ o e Q q => h1 H0 F H σ o e _ fun x F1 H1 g1 r1 => by
  refine ⟨b, dn_bl r1, ?_⟩
  cases b with
  | true => exact h2 rfl H0 F1 H1 σ (o.gr g1) (e.trans g1.h) Q fun v F2 H2 g2 r2 => q v F2 H2 (g1.trans g2) r2
  | false => exact q _ F1 H1 g1 (.bl _)
theorem evr_orV (h1 : EvR ta env (D (.bool b))) (h2 : b = false → EvR tb env (D (.bool c))) : EvR (tOrV ta tb) env (D (.bool (b || c))) := fun H0 F H σ o e Q q => h1 H0 F H σ o e _ fun x F1 H1 g1 r1 => by
  refine ⟨b, dn_bl r1, ?_⟩
  cases b with
  | true => exact q _ F1 H1 g1 (.bl _)
  | false => exact h2 rfl H0 F1 H1 σ (o.gr g1) (e.trans g1.h) Q fun v F2 H2 g2 r2 => q v F2 H2 (g1.trans g2) r2
theorem evr_if (h : EvT tt env b) (h1 : b = true → EvR ta env R) (h2 : b = false → EvR tb env R) : EvR (tIf tt ta tb) env R := fun H0 F H σ o e Q q => h H0 F H σ o e _ fun F1 H1 g1 => by
  cases b with
  | true => exact h1 rfl H0 F1 H1 σ (o.gr g1) (e.trans g1.h) Q fun v F2 H2 g2 r2 => q v F2 H2 (g1.trans g2) r2
  | false => exact h2 rfl H0 F1 H1 σ (o.gr g1) (e.trans g1.h) Q fun v F2 H2 g2 r2 => q v F2 H2 (g1.trans g2) r2
theorem evr_isN {r : R2} (hr : r = fun x y H Q => y = .non ∧ Q (.bl (decide (x = .non))) H) (ha : EvR ta env R) (hb : ∀ v F, R.p v F → decide (v = .non) = b) : EvR (tOp r ta (tC .non)) env (D (.bool b)) := fun H0 F H σ o e Q q =>
  ha H0 F H σ o e _ fun x F1 H1 g1 r1 => by
    rw [hr]
    exact ⟨rfl, q _ F1 H1 g1 (by rw [hb _ _ r1]; exact .bl b)⟩
theorem evr_notN {r : R2} (hr : r = fun x y H Q => y = .non ∧ Q (.bl (!decide (x = .non))) H) (ha : EvR ta env R) (hb : ∀ v F, R.p v F → (!decide (v = .non)) = b) : EvR (tOp r ta (tC .non)) env (D (.bool b)) := fun H0 F H σ o e Q q =>
  ha H0 F H σ o e _ fun x F1 H1 g1 r1 => by
    rw [hr]
    exact ⟨rfl, q _ F1 H1 g1 (by rw [hb _ _ r1]; exact .bl b)⟩
theorem evr_isB (ha : EvR ta env (D (.bool b))) (hb : EvR tb env (D (.bool c))) : EvR (tOp rIsB ta tb) env (D (.bool (decide (b = c)))) := fun H0 F H σ o e Q q =>
  ev2 ha hb o e fun x y F' H' gr hx hy => ⟨b, c, dn_bl hx, dn_bl hy, q _ F' H' gr (.bl _)⟩
/-- not c, as a value -/
theorem evr_notV (h : EvR ta env (D (.bool b))) : EvR (tNotV ta) env (D (.bool (!b))) := fun H0 F H σ o e Q q => h H0 F H σ o e _ fun x F1 H1 g1 r1 => ⟨b, dn_bl r1, q _ F1 H1 g1 (.bl _)⟩
/-- a <= b < c -/
theorem evt_chain {g g' : Int → Int → Bool} {m : Int} (ha : EvR ta env (D (.int i))) (hb : EvR tb env (D (.int j))) (hc : EvR tc env (D (.int m))) : EvT (tTest (tChain (rI0 fun i j => .bl (g i j)) (rI0 fun i j => .bl (g' i j)) ta tb tc)) env (g i j && g' j m) :=
  fun H0 F H σ o e Q q => ha H0 F H σ o e _ fun x F1 H1 g1 r1 => hb H0 F1 H1 σ (o.gr g1) (e.trans g1.h) _ fun y F2 H2 g2 r2 => by
    refine ⟨i, j, dn_int r1, dn_int r2, _, rfl, ?_⟩
    cases h : g i j with
    | true =>
      refine hc H0 F2 H2 σ ((o.gr g1).gr g2) ((e.trans g1.h).trans g2.h) _ fun z F3 H3 g3 r3 => ⟨j, m, dn_int r2, dn_int r3, _, rfl, ?_⟩
      have q' := q F3 H3 ((g1.trans g2).trans g3)
      rw [h] at q'
      exact q'
    | false =>
      have q' := q F2 H2 (g1.trans g2)
      rw [h] at q'
      exact ⟨_, rfl, q'⟩
/-! arguments -/
theorem eva_nil : EvAs tNil env [] := fun H0 F H σ o e Q q => q [] F H (Gr.refl o.ex) True.intro
theorem eva_cons {Rs : List Pr} (h : EvR ta env R) (hr : EvAs tr env Rs) : EvAs (tCons ta tr) env (R :: Rs) := fun H0 F H σ o e Q q =>
  h H0 F H σ o e _ fun x F1 H1 g1 r1 => hr H0 F1 H1 σ (o.gr g1) (e.trans g1.h) _ fun xs F2 H2 g2 r2 => q (x :: xs) F2 H2 (g1.trans g2) ⟨R.up g2.f r1, r2⟩
theorem evr_tup (h : EvAs tr env (ds.map D)) (hl : ds.length ≤ 100000) : EvR (tTup tr) env (D (.tuple ds)) := fun H0 F H σ o e Q q =>
  h H0 F H σ o e _ fun xs F1 H1 g1 r1 => ⟨by rw [AllP.len r1, List.length_map, sizeLine_eq]; omega, fun p hp => q _ _ _ (g1.trans (Gr.new g1.s hp)) (.tup upd_same (DnA.up (Ex.new (g1.s.free hp)) _ _ (AllP.dn r1)))⟩
theorem evn_lst (h : EvAs tr env (ds.map D)) (hl : ds.length ≤ 100000) : EvN (tLst tr) env ds := fun H0 F H σ o e Q q =>
  h H0 F H σ o e _ fun xs F1 H1 g1 r1 => ⟨by rw [AllP.len r1, List.length_map, sizeLine_eq]; omega, fun p hp => q _ _ _ _ (g1.trans (Gr.newO g1.s hp)) (g1.h.free hp) (g1.s.free hp) upd_same (AllP.dn r1)⟩
/-! lists and tuples read -/
theorem at_map {vs : List V} {F : Hp} (h : DnA F vs ds) (hi : atI ds i = some d) : ∃ v, atI vs i = some v ∧ Dn F v d := by
  unfold atI at hi ⊢
  rw [h.len]
  cases e : ixN ds.length i with
  | none => rw [e] at hi; cases hi
  | some j =>
    rw [e] at hi
    obtain ⟨v, a, b⟩ := h.get (show ds[j]? = some d from hi)
    exact ⟨v, a, b⟩
theorem evr_ixL (ha : EvR ta env (D (.list ds))) (hb : EvR tb env (D (.int i))) (hi : atI ds i = some d) : EvR (tOp (rIxL K) ta tb) env (D d) := fun H0 F H σ o e Q q =>
  ev2 ha hb o e fun x y F' H' gr hx hy => by
    cases hx with
    | lst h1 h2 =>
      obtain ⟨v, a, b⟩ := at_map h2 hi
      exact ⟨_, _, i, v, rfl, dn_int hy, SqL.of (gr.s _ _ h1), a, q v F' H' gr b⟩
theorem evr_ixT (ha : EvR ta env (D (.tuple ds))) (hb : EvR tb env (D (.int i))) (hi : atI ds i = some d) : EvR (tOp (rIxT K) ta tb) env (D d) := fun H0 F H σ o e Q q =>
  ev2 ha hb o e fun x y F' H' gr hx hy => by
    cases hx with
    | tup h1 h2 =>
      obtain ⟨v, a, b⟩ := at_map h2 hi
      exact ⟨_, _, i, v, rfl, dn_int hy, SqT.of (gr.s _ _ h1), a, q v F' H' gr b⟩
def rLenS (K : PySem.W.Frag) : List V → Hp → VK → Prop := fun xs H Q => ∃ p ys, xs = [.ref p] ∧ (SqL K H p ys ∨ SqT K H p ys) ∧ Q (.int ys.length) H
theorem evr_lenL (ha : EvR ta env (D (.list ds))) : EvR (tCB (rLenS K) (tCons ta tNil)) env (D (.int (ds.length : Int))) := fun H0 F H σ o e Q q =>
  ha H0 F H σ o e _ fun x F1 H1 g1 r1 => by
    cases r1 with
    | lst h1 h2 => exact ⟨_, _, rfl, .inl (SqL.of (g1.s _ _ h1)), q _ F1 H1 g1 (by rw [h2.len]; exact .int _)⟩
theorem evr_lenT (ha : EvR ta env (D (.tuple ds))) : EvR (tCB (rLenS K) (tCons ta tNil)) env (D (.int (ds.length : Int))) := fun H0 F H σ o e Q q =>
  ha H0 F H σ o e _ fun x F1 H1 g1 r1 => by
    cases r1 with
    | tup h1 h2 => exact ⟨_, _, rfl, .inr (SqT.of (g1.s _ _ h1)), q _ F1 H1 g1 (by rw [h2.len]; exact .int _)⟩
theorem evo_none : EvO tNoPart env none := fun H0 F H σ o e Q q => q F H (Gr.refl o.ex)
theorem evo_some (h : EvR te env (D (.int i))) : EvO (tPart te) env (some i) := fun H0 F H σ o e Q q => h H0 F H σ o e _ fun x F1 H1 g1 r1 => ⟨i, dn_int r1, q F1 H1 g1⟩
def cutD (xs : List PyData) (lo hi : Option Int) : List PyData := (xs.drop (HT.sIx xs.length 0 lo)).take (HT.sIx xs.length xs.length hi - HT.sIx xs.length 0 lo)
theorem DnA.cut {F : Hp} {vs : List V} {lo hi : Option Int} (h : DnA F vs ds) : DnA F (cutV vs lo hi) (cutD ds lo hi) := by
  unfold cutV cutD
  rw [h.len]
  exact (h.drop _).take _
theorem evn_slice {tl th : TO} {lo hi : Option Int} (h : EvR te env (D (.list ds))) (h1 : EvO tl env lo) (h2 : EvO th env hi) : EvN (tSl (rSlL K) te tl th) env (cutD ds lo hi) := fun H0 F H σ o e Q q =>
  h H0 F H σ o e _ fun x F1 H1 g1 r1 => h1 H0 F1 H1 σ (o.gr g1) (e.trans g1.h) _ fun F2 H2 g2 => h2 H0 F2 H2 σ ((o.gr g1).gr g2) ((e.trans g1.h).trans g2.h) _ fun F3 H3 g3 => by
    have g := (g1.trans g2).trans g3
    cases r1 with
    | lst p1 p2 =>
      have p2' := DnA.up g3.f _ _ (DnA.up g2.f _ _ p2)
      exact ⟨_, _, rfl, SqL.of (g3.s _ _ (g3.f _ _ (g2.f _ _ p1))), fun p hp => q _ _ _ _ (g.trans (Gr.newO g.s hp)) (g.h.free hp) (g.s.free hp) upd_same p2'.cut⟩
theorem evn_rev (h : EvR te env (D (.list ds))) : EvN (tRevL K te) env ds.reverse := fun H0 F H σ o e Q q =>
  h H0 F H σ o e _ fun x F1 H1 g1 r1 => by
    cases r1 with
    | lst p1 p2 => exact ⟨_, _, rfl, SqL.of (g1.s _ _ p1), fun p hp => q _ _ _ _ (g1.trans (Gr.newO g1.s hp)) (g1.h.free hp) (g1.s.free hp) upd_same p2.rev⟩
theorem evn_cat (ha : EvR ta env (D (.list ds))) (hb : EvR tb env (D (.list es))) (hl : ds.length + es.length ≤ 100000) : EvN (tOp rCat ta tb) env (ds ++ es) := fun H0 F H σ o e Q q =>
  ev2 ha hb o e fun x y F' H' gr hx hy => by
    cases hx with
    | lst h1 h2 =>
      cases hy with
      | lst k1 k2 => exact ⟨_, _, _, _, rfl, rfl, gr.s _ _ h1, gr.s _ _ k1, by rw [h2.len, k2.len, sizeLine_eq]; omega, fun p hp => q _ _ _ _ (gr.trans (Gr.newO gr.s hp)) (gr.h.free hp) (gr.s.free hp) upd_same (h2.app k2)⟩
theorem evn_rep {n : Nat} (ha : EvR ta env (D (.list [d]))) (hb : EvR tb env (D (.int (n : Int)))) (hl : n ≤ 100000) : EvN (tOp rRep ta tb) env (List.replicate n d) := fun H0 F H σ o e Q q =>
  ev2 ha hb o e fun x y F' H' gr hx hy => by
    cases hx with
    | lst h1 h2 =>
      cases h2 with
      | cons k1 k2 =>
        cases k2
        refine ⟨_, _, _, rfl, dn_int hy, gr.s _ _ h1, by omega, by omega, by rw [sizeLine_eq]; simp; omega, fun p hp => q _ _ _ _ (gr.trans (Gr.newO gr.s hp)) (gr.h.free hp) (gr.s.free hp) upd_same ?_⟩
        have e2 : ∀ (n : Nat) (v : V), (List.replicate n [v]).flatten = List.replicate n v := by
          intro n v
          induction n with
          | zero => rfl
          | succ n ih => rw [List.replicate_succ, List.flatten_cons, ih]; rfl
        rw [show ((n : Int).toNat) = n from Int.toNat_natCast n, e2]
        exact DnA.rep k1 n
/-! built-ins on ints -/
theorem evr_int1 (ha : EvR ta env (D (.int i))) : EvR (tCB (fun xs H Q => (∃ i, xs = [.int i] ∧ Q (.int i) H) ∨ ∃ k, xs = [.bl k] ∧ Q (.int (if k then 1 else 0)) H) (tCons ta tNil)) env (D (.int i)) := fun H0 F H σ o e Q q =>
  ha H0 F H σ o e _ fun x F1 H1 g1 r1 => .inl ⟨i, by rw [dn_int r1], q _ F1 H1 g1 (.int i)⟩
theorem evr_intB (ha : EvR ta env (D (.bool b))) : EvR (tCB (fun xs H Q => (∃ i, xs = [.int i] ∧ Q (.int i) H) ∨ ∃ k, xs = [.bl k] ∧ Q (.int (if k then 1 else 0)) H) (tCons ta tNil)) env (D (.int (if b then 1 else 0))) := fun H0 F H σ o e Q q =>
  ha H0 F H σ o e _ fun x F1 H1 g1 r1 => .inr ⟨b, by rw [dn_bl r1], q _ F1 H1 g1 (.int _)⟩
theorem evr_max2 (ha : EvR ta env (D (.int i))) (hb : EvR tb env (D (.int j))) : EvR (tCB (fun xs H Q => ∃ i j, xs = [.int i, .int j] ∧ Q (.int (if j > i then j else i)) H) (tCons ta (tCons tb tNil))) env (D (.int (if j > i then j else i))) := fun H0 F H σ o e Q q =>
  ha H0 F H σ o e _ fun x F1 H1 g1 r1 => hb H0 F1 H1 σ (o.gr g1) (e.trans g1.h) _ fun y F2 H2 g2 r2 => ⟨i, j, by rw [dn_int r1, dn_int r2], q _ F2 H2 (g1.trans g2) (.int _)⟩
theorem evr_min2 (ha : EvR ta env (D (.int i))) (hb : EvR tb env (D (.int j))) : EvR (tCB (fun xs H Q => ∃ i j, xs = [.int i, .int j] ∧ Q (.int (if j < i then j else i)) H) (tCons ta (tCons tb tNil))) env (D (.int (if j < i then j else i))) := fun H0 F H σ o e Q q =>
  ha H0 F H σ o e _ fun x F1 H1 g1 r1 => hb H0 F1 H1 σ (o.gr g1) (e.trans g1.h) _ fun y F2 H2 g2 r2 => ⟨i, j, by rw [dn_int r1, dn_int r2], q _ F2 H2 (g1.trans g2) (.int _)⟩
theorem evn_list (ha : EvR ta env (D (.list ds))) : EvN (tCB (fun xs H Q => ∃ p ys, xs = [.ref p] ∧ (SqL K H p ys ∨ SqT K H p ys) ∧ ∀ l, H l = none → Q (.ref l) (upd H l (.lst ys))) (tCons ta tNil)) env ds := fun H0 F H σ o e Q q =>
  ha H0 F H σ o e _ fun x F1 H1 g1 r1 => by
    cases r1 with
    | lst p1 p2 => exact ⟨_, _, rfl, .inl (SqL.of (g1.s _ _ p1)), fun p hp => q _ _ _ _ (g1.trans (Gr.newO g1.s hp)) (g1.h.free hp) (g1.s.free hp) upd_same p2⟩
theorem evn_listT (ha : EvR ta env (D (.tuple ds))) : EvN (tCB (fun xs H Q => ∃ p ys, xs = [.ref p] ∧ (SqL K H p ys ∨ SqT K H p ys) ∧ ∀ l, H l = none → Q (.ref l) (upd H l (.lst ys))) (tCons ta tNil)) env ds := fun H0 F H σ o e Q q =>
  ha H0 F H σ o e _ fun x F1 H1 g1 r1 => by
    cases r1 with
    | tup p1 p2 => exact ⟨_, _, rfl, .inr (SqT.of (g1.s _ _ p1)), fun p hp => q _ _ _ _ (g1.trans (Gr.newO g1.s hp)) (g1.h.free hp) (g1.s.free hp) upd_same p2⟩
theorem evr_tupleL (ha : EvR ta env (D (.list ds))) : EvR (tThen ta (kTup K)) env (D (.tuple ds)) := fun H0 F H σ o e Q q =>
  ha H0 F H σ o e _ fun x F1 H1 g1 r1 => by
    cases r1 with
    | lst p1 p2 => exact .inl ⟨_, _, rfl, SqL.of (g1.s _ _ p1), fun p hp => q _ _ _ (g1.trans (Gr.new g1.s hp)) (.tup upd_same (DnA.up (Ex.new (g1.s.free hp)) _ _ p2))⟩
theorem evr_tupleT (ha : EvR ta env (D (.tuple ds))) : EvR (tThen ta (kTup K)) env (D (.tuple ds)) := fun H0 F H σ o e Q q =>
  ha H0 F H σ o e _ fun x F1 H1 g1 r1 => by
    cases r1 with
    | tup p1 p2 => exact .inr ⟨_, _, rfl, SqT.of (g1.s _ _ p1), q _ _ _ g1 (.tup p1 p2)⟩
/-- list(range(n)), list(range(a, b)) -/
theorem evn_range1 {n : Nat} (ha : EvR ta env (D (.int (n : Int)))) (hl : n ≤ 100000) : EvN (tLstRg (tRg1 ta)) env ((List.range n).map fun k : Nat => PyData.int (k : Int)) := fun H0 F H σ o e Q q =>
  ha H0 F H σ o e _ fun x F1 H1 g1 r1 => ⟨n, dn_int r1, RgOk.of_le (by omega) (by omega) (by omega) (by omega), fun p hp => q _ _ _ _ (g1.trans (Gr.newO g1.s hp)) (g1.h.free hp) (g1.s.free hp) upd_same (by
    have e2 : rgV 0 (n : Int) = ((List.range n).map fun k : Nat => (k : Int)).map V.int := by
      unfold rgV
      rw [List.map_map, Int.sub_zero, Int.toNat_natCast]
      exact List.map_congr_left fun k _ => by rw [Int.zero_add]; rfl
    have e3 : (List.range n).map (fun k : Nat => PyData.int (k : Int)) = ((List.range n).map fun k : Nat => (k : Int)).map PyData.int := by rw [List.map_map]; rfl
    rw [e2, e3]
    exact DnA.ints _)⟩
theorem evn_range2 {a n : Nat} (ha : EvR ta env (D (.int (a : Int)))) (hb : EvR tb env (D (.int ((a : Int) + n)))) (hl : a + n ≤ 100000) : EvN (tLstRg (tRg2 ta tb)) env ((List.range n).map fun k : Nat => PyData.int ((a + k : Nat) : Int)) := fun H0 F H σ o e Q q =>
  ha H0 F H σ o e _ fun x F1 H1 g1 r1 => hb H0 F1 H1 σ (o.gr g1) (e.trans g1.h) _ fun y F2 H2 g2 r2 => ⟨(a : Int), (a : Int) + n, dn_int r1, dn_int r2, RgOk.of_le (by omega) (by omega) (by omega) (by omega), fun p hp => q _ _ _ _ ((g1.trans g2).trans (Gr.newO g2.s hp)) ((g1.trans g2).h.free hp) (g2.s.free hp) upd_same (by
    have e2 : rgV (a : Int) ((a : Int) + n) = ((List.range n).map fun k : Nat => ((a + k : Nat) : Int)).map V.int := by
      unfold rgV
      rw [List.map_map, show ((a : Int) + n - a).toNat = n by omega]
      exact List.map_congr_left fun k _ => by simp
    have e3 : (List.range n).map (fun k : Nat => PyData.int ((a + k : Nat) : Int)) = ((List.range n).map fun k : Nat => ((a + k : Nat) : Int)).map PyData.int := by rw [List.map_map]; rfl
    rw [e2, e3]
    exact DnA.ints _)⟩
/-! in, index -/
theorem inV_ints {k : Int} : ∀ ns : List Int, inV (.int k) (ns.map V.int) = decide (k ∈ ns)
  | [] => rfl
  | n :: ns => by
    have e : inV (.int k) ((n :: ns).map V.int) = ((n == k) || inV (.int k) (ns.map V.int)) := rfl
    rw [e, inV_ints ns, Bool.eq_iff_iff]
    simp only [Bool.or_eq_true, beq_iff_eq, decide_eq_true_eq, List.mem_cons]
    exact ⟨fun h => h.imp Eq.symm id, fun h => h.imp Eq.symm id⟩
theorem flat_ints (ns : List Int) : (ns.map V.int).all flatV = true := by
  rw [List.all_eq_true]
  intro x hx
  obtain ⟨n, _, rfl⟩ := List.mem_map.mp hx
  rfl
theorem evr_inL {k : Int} {ns : List Int} (ha : EvR ta env (D (.int k))) (hb : EvR tb env (D (.list (ns.map .int)))) : EvR (tOp (rIn K false) ta tb) env (D (.bool (decide (k ∈ ns)))) := fun H0 F H σ o e Q q =>
  ev2 ha hb o e fun x y F' H' gr hx hy => by
    cases hy with
    | lst h1 h2 =>
      have e2 := h2.toInts
      subst e2
      rw [dn_int hx]
      refine ⟨_, _, rfl, .inl (SqL.of (gr.s _ _ h1)), rfl, flat_ints ns, q _ F' H' gr ?_⟩
      show Dn F' (.bl (if false = true then _ else inV (.int k) (ns.map V.int))) _
      rw [if_neg Bool.false_ne_true, inV_ints]
      exact .bl _
theorem evr_index {k : Int} {ns : List Int} {j : Nat} (ha : EvR ta env (D (.list (ns.map .int)))) (hb : EvR tb env (D (.int k))) (hj : ns[j]? = some k) (hm : ∀ m, m < j → ns[m]? ≠ some k) :
    EvR (tBM K "list" (rIndex K) ta (tCons tb tNil)) env (D (.int (j : Int))) := fun H0 F H σ o e Q q =>
  ha H0 F H σ o e _ fun x F1 H1 g1 r1 => by
    cases r1 with
    | lst h1 h2 =>
      have e2 := h2.toInts
      subst e2
      refine ⟨.inl ⟨rfl, _, SqL.of (g1.s _ _ h1)⟩, hb H0 F1 H1 σ (o.gr g1) (e.trans g1.h) _ fun y F2 H2 g2 r2 => ?_⟩
      rw [dn_int r2]
      refine ⟨_, _, _, j, .int k, rfl, rfl, SqL.of (g2.s _ _ (g2.f _ _ h1)), rfl, flat_ints ns, by rw [List.getElem?_map, hj]; rfl, by show (k == k) = true; simp, fun m z' hm' hz => ?_, q _ F2 H2 (g1.trans g2) (.int _)⟩
      rw [List.getElem?_map] at hz
      cases e3 : ns[m]? with
      | none => rw [e3] at hz; cases hz
      | some n =>
        rw [e3] at hz
        have hz' : z' = .int n := (Option.some.inj hz).symm
        subst hz'
        show (n == k) = false
        rw [beq_eq_false_iff_ne]
        intro q'
        subst q'
        exact hm m hm' e3
/-! data at any depth -/
theorem evr_inD (ha : EvR ta env (D d)) (hb : EvR tb env (D (.list ds))) (sd : SeqAt.shaped d = true) (se : SeqAt.shaped (.list ds) = true) : EvR (tOp (rInD K) ta tb) env (D (.bool (ds.any fun z => PyData.eqv z d))) := fun H0 F H σ o e Q q =>
  ev2 ha hb o e fun x y F' H' gr hx hy => ⟨d, ds, (Dn.up gr.s _ _ hx).dp, (Dn.up gr.s _ _ hy).dp, sd, se, q _ F' H' gr (.bl _)⟩
theorem evr_notInD (ha : EvR ta env (D d)) (hb : EvR tb env (D (.list ds))) (sd : SeqAt.shaped d = true) (se : SeqAt.shaped (.list ds) = true) : EvR (tOp (rNotInD K) ta tb) env (D (.bool (!ds.any fun z => PyData.eqv z d))) := fun H0 F H σ o e Q q =>
  ev2 ha hb o e fun x y F' H' gr hx hy => ⟨d, ds, (Dn.up gr.s _ _ hx).dp, (Dn.up gr.s _ _ hy).dp, sd, se, q _ F' H' gr (.bl _)⟩
theorem evr_neD {e' : PyData} (ha : EvR ta env (D d)) (hb : EvR tb env (D e')) (sd : SeqAt.shaped d = true) (se : SeqAt.shaped e' = true) : EvR (tOp (rNeD K) ta tb) env (D (.bool (!PyData.eqv d e'))) := fun H0 F H σ o e Q q =>
  ev2 ha hb o e fun x y F' H' gr hx hy => ⟨d, e', (Dn.up gr.s _ _ hx).dp, (Dn.up gr.s _ _ hy).dp, sd, se, q _ F' H' gr (.bl _)⟩
end
end Fz

/-! text BmSt -/
set_option Elab.async false
set_option linter.all false
set_option maxRecDepth 100000
set_option maxHeartbeats 4000000
namespace Fz
open PySem L2

/-! ### an owned list, read -/
section
variable {env : List Sl} {k : Nat} {ds es : List PyData} {d : PyData} {te : TE} {tt : TT} {b : Bool} {t : TS}
theorem gr_own {F H F' H' : Hp} {a : Addr} {o : HO} (e : Ex F H) (g : Gr (upd F a o) H F' H') : Gr F H F H' := ⟨Ex.refl F, g.h, e.trans g.h, fun _ h => .inl h⟩
theorem evt_own (k : Nat) (hk : env[k]? = some (.own ds)) (h : EvT tt (env.set k (.has (D (.list ds)))) b) : EvT tt env b := fun H0 F H σ o e Q q => by
  obtain ⟨a, xs, h1, h2, h3, h4, o'⟩ := o.freeze hk
  exact h H0 _ H σ o' e Q fun F' H' g => q F H' (gr_own o.ex g)
theorem evr_own (k : Nat) (hk : env[k]? = some (.own ds)) (h : EvR te (env.set k (.has (D (.list ds)))) (D d)) (hd : flatD d = true) : EvR te env (D d) := fun H0 F H σ o e Q q => by
  obtain ⟨a, xs, h1, h2, h3, h4, o'⟩ := o.freeze hk
  exact h H0 _ H σ o' e Q fun v F' H' g r => q v F H' (gr_own o.ex g) (Dn.flat hd r)
theorem evn_own (k : Nat) (hk : env[k]? = some (.own ds)) (h : EvN te (env.set k (.has (D (.list ds)))) es) (hd : es.all flatD = true) : EvN te env es := fun H0 F H σ o e Q q => by
  obtain ⟨a, xs, h1, h2, h3, h4, o'⟩ := o.freeze hk
  exact h H0 _ H σ o' e Q fun p ys F' H' g hn hf hl r => q p ys F H' (gr_own o.ex g) hn (o.ex.free hn) hl (DnA.flat hd r)
theorem evr_ownT (k : Nat) (hk : env[k]? = some (.own ds)) (h : EvR te (env.set k (.has (D (.list ds)))) (D (.tuple es))) (hd : es.all flatD = true) : EvR te env (D (.tuple es)) := fun H0 F H σ o e Q q => by
  obtain ⟨a, xs, h1, h2, h3, h4, o'⟩ := o.freeze hk
  refine h H0 _ H σ o' e Q fun v F' H' g r => ?_
  cases r with
  | @tup p ys _ r1 r2 =>
    have eF : Ex F F' := (Ex.new h3).trans g.f
    refine q _ (upd F p (.tup ys)) H' ⟨fun b u hb => ?_, g.h, fun b u hb => ?_, fun b hb => ?_⟩ (.tup upd_same (DnA.flat hd r2))
    · by_cases z : b = p
      · subst z
        rw [upd_same, ← r1]
        exact eF b u hb
      · rw [upd_ne z]; exact hb
    · by_cases z : b = p
      · subst z
        rw [upd_same] at hb
        rw [← hb]
        exact g.s _ _ r1
      · rw [upd_ne z] at hb
        exact g.h _ _ (o.ex _ _ hb)
    · by_cases z : b = p
      · subst z
        rcases g.n b (by rw [r1]; exact fun z => nomatch z) with y | y
        · by_cases w : b = a
          · subst w
            have := g.f b _ upd_same
            rw [r1] at this
            cases this
          · rw [upd_ne w] at y; exact .inl y
        · exact .inr y
      · rw [upd_ne z] at hb; exact .inl hb
end

/-! ### comprehensions -/
section
variable {env : List Sl} {K : PySem.W.Frag} {j : Nat} {tl te ta tb : TE} {tt : TT}
/-- what holds between two turns: A the list that is made, from (F1, H1) -/
def LcP (F1 H1 : Hp) (A : Addr) (ys : Nat → List PyData) (i : Nat) (H : Hp) : Prop := ∃ F acc, Gr F1 H1 F H ∧ F A = none ∧ H A = some (.lst acc) ∧ DnA F acc (ys i)
theorem lc_turn {H0 F1 H1 : Hp} {σ : L2.St} {A : Addr} {ys : Nat → List PyData} {i : Nat} {H : Hp} {v : V} {R : Pr} {b : Bool} {y : PyData} (o : Ok H0 F1 H1 σ env) (e : Ex H0 H1) (hA : H1 A = none) (p : LcP F1 H1 A ys i H)
    (hv : R.p v F1) (ht : EvT tt (env.set j (.has R)) b) (he : b = true → EvR te (env.set j (.has R)) (D y)) (hy : ys (i + 1) = if b = true then ys i ++ [y] else ys i) (hl : (ys i).length ≤ 40000) :
    gName j v (wipe σ [j]) H fun σ2 H2 => wipe σ2 [j] = wipe σ [j] ∧ tt σ2 H2 fun b H3 => if b = true then te σ2 H3 fun y H4 => ∃ acc, H4 A = some (.lst acc) ∧ acc.length < sizeLine ∧ LcP F1 H1 A ys (i + 1) (upd H4 A (.lst (acc ++ [y]))) else LcP F1 H1 A ys (i + 1) H3 := by
  obtain ⟨F, acc, g, hF, hH, hd⟩ := p
  have es : (wipe σ [j]).set j (some v) = σ.set j (some v) := by
    show (σ.set j none).set j (some v) = _
    rw [List.set_set]
  show wipe ((wipe σ [j]).set j (some v)) [j] = wipe σ [j] ∧ tt ((wipe σ [j]).set j (some v)) H _
  rw [es]
  refine ⟨by show (σ.set j (some v)).set j none = σ.set j none; rw [List.set_set], ?_⟩
  have o2 : Ok H0 F H (σ.set j (some v)) (env.set j (.has R)) := (o.gr g).setH (R.up g.f hv)
  refine ht H0 F H _ o2 (e.trans g.h) _ fun F3 H3 g3 => ?_
  have hF3 : F3 A = none := g3.keep hF (by rw [hH]; exact fun z => nomatch z)
  cases b with
  | false => exact ⟨F3, acc, g.trans g3, hF3, g3.h _ _ hH, by rw [hy]; exact DnA.up g3.f _ _ hd⟩
  | true =>
    refine he rfl H0 F3 H3 _ (o2.gr g3) ((e.trans g.h).trans g3.h) _ fun w F4 H4 g4 r4 => ?_
    have hF4 : F4 A = none := g4.keep hF3 (by rw [g3.h _ _ hH]; exact fun z => nomatch z)
    refine ⟨acc, g4.h _ _ (g3.h _ _ hH), by rw [hd.len, sizeLine_eq]; omega, F4, acc ++ [w], ((g.trans g3).trans g4).put hF4 hA, hF4, upd_same, ?_⟩
    rw [hy]
    exact (DnA.up g4.f _ _ (DnA.up g3.f _ _ hd)).app (.cons r4 .nil)
theorem lc_start {F1 H1 : Hp} {A : Addr} {ys : Nat → List PyData} (e : Ex F1 H1) (hA : H1 A = none) (h0 : ys 0 = []) : LcP F1 H1 A ys 0 (upd H1 A (.lst [])) :=
  ⟨F1, [], Gr.newO e hA, e.free hA, upd_same, by rw [h0]; exact .nil⟩
def ysOf {β : Type} (p : β → Bool) (f : β → PyData) (xs : List β) (i : Nat) : List PyData := ((xs.take i).filter p).map f
theorem ysOf_next {β : Type} {p : β → Bool} {f : β → PyData} {xs : List β} {i : Nat} {x : β} (h : xs[i]? = some x) : ysOf p f xs (i + 1) = if p x = true then ysOf p f xs i ++ [f x] else ysOf p f xs i := by
  unfold ysOf
  obtain ⟨hl, e⟩ := List.getElem?_eq_some_iff.mp h
  rw [List.take_succ_eq_append_getElem hl, e, List.filter_append]
  by_cases hp : p x = true
  · rw [if_pos hp, List.filter_cons_of_pos hp, List.map_append]; rfl
  · rw [if_neg hp, List.filter_cons_of_neg hp, List.filter_nil, List.append_nil]
theorem ysOf_len {β : Type} {p : β → Bool} {f : β → PyData} {xs : List β} {i : Nat} : (ysOf p f xs i).length ≤ xs.length := by
  unfold ysOf
  rw [List.length_map]
  exact Nat.le_trans (List.length_filter_le _ _) (by rw [List.length_take]; omega)
theorem ysOf_all {β : Type} {p : β → Bool} {f : β → PyData} {xs : List β} : ysOf p f xs xs.length = (xs.filter p).map f := by
  unfold ysOf
  rw [List.take_length]
/-- [e for x in xs if t] over a list -/
theorem evn_lcL {β : Type} (enc : β → PyData) (p : β → Bool) (f : β → PyData) {xs : List β} (h : EvR tl env (D (.list (xs.map enc)))) (hz : xs.length ≤ 40000)
    (ht : ∀ x ∈ xs, EvT tt (env.set j (.has (D (enc x)))) (p x)) (he : ∀ x ∈ xs, p x = true → EvR te (env.set j (.has (D (enc x)))) (D (f x))) :
    EvN (tLc (iList K tl) (gName j) tt te [j]) env ((xs.filter p).map f) := fun H0 F H σ o e Q q =>
  h H0 F H σ o e _ fun v F1 H1 g1 r1 => by
    cases r1 with
    | @lst a vs _ q1 q2 =>
      refine ⟨a, rfl, ⟨vs, SqL.of (g1.s _ _ q1)⟩, fun A hA => lc_list (xs := vs) (LcP F1 H1 A (ysOf p f xs)) (lc_start g1.s hA rfl) (fun i H' _ pp => ?_) (fun i x H' hi pp => ?_) fun H' pp => ?_⟩
      · obtain ⟨F2, acc, g2, _⟩ := pp
        exact SqL.of (g2.h _ _ (g1.s _ _ q1))
      · obtain ⟨d, hd, dv⟩ := q2.getv hi
        rw [List.getElem?_map] at hd
        cases ex : xs[i]? with
        | none => rw [ex] at hd; cases hd
        | some z =>
          rw [ex] at hd
          have ed : enc z = d := Option.some.inj hd
          subst ed
          have mz := List.mem_of_getElem? ex
          exact lc_turn (o.gr g1) (e.trans g1.h) hA pp (R := D (enc z)) dv (ht z mz) (he z mz) (ysOf_next ex) (Nat.le_trans ysOf_len hz)
      · obtain ⟨F2, acc, g2, f2, h2, d2⟩ := pp
        have hl : vs.length = xs.length := by rw [q2.len, List.length_map]
        rw [hl, ysOf_all] at d2
        exact q A acc F2 H' (g1.trans g2) (g1.h.free hA) f2 h2 d2
/-- over a tuple -/
theorem evn_lcT {β : Type} (enc : β → PyData) (p : β → Bool) (f : β → PyData) {xs : List β} (h : EvR tl env (D (.tuple (xs.map enc)))) (hz : xs.length ≤ 40000)
    (ht : ∀ x ∈ xs, EvT tt (env.set j (.has (D (enc x)))) (p x)) (he : ∀ x ∈ xs, p x = true → EvR te (env.set j (.has (D (enc x)))) (D (f x))) :
    EvN (tLc (iTup K tl) (gName j) tt te [j]) env ((xs.filter p).map f) := fun H0 F H σ o e Q q =>
  h H0 F H σ o e _ fun v F1 H1 g1 r1 => by
    cases r1 with
    | @tup a vs _ q1 q2 =>
      refine ⟨a, rfl, ⟨vs, SqT.of (g1.s _ _ q1)⟩, fun A hA => lc_tup (xs := vs) (LcP F1 H1 A (ysOf p f xs)) (lc_start g1.s hA rfl) (fun i H' _ pp => ?_) (fun i x H' hi pp => ?_) fun H' pp => ?_⟩
      · obtain ⟨F2, acc, g2, _⟩ := pp
        exact SqT.of (g2.h _ _ (g1.s _ _ q1))
      · obtain ⟨d, hd, dv⟩ := q2.getv hi
        rw [List.getElem?_map] at hd
        cases ex : xs[i]? with
        | none => rw [ex] at hd; cases hd
        | some z =>
          rw [ex] at hd
          have ed : enc z = d := Option.some.inj hd
          subst ed
          have mz := List.mem_of_getElem? ex
          exact lc_turn (o.gr g1) (e.trans g1.h) hA pp (R := D (enc z)) dv (ht z mz) (he z mz) (ysOf_next ex) (Nat.le_trans ysOf_len hz)
      · obtain ⟨F2, acc, g2, f2, h2, d2⟩ := pp
        have hl : vs.length = xs.length := by rw [q2.len, List.length_map]
        rw [hl, ysOf_all] at d2
        exact q A acc F2 H' (g1.trans g2) (g1.h.free hA) f2 h2 d2
/-- over range(n) -/
theorem evn_lcR1 (p : Nat → Bool) (f : Nat → PyData) {n : Nat} (h : EvR ta env (D (.int (n : Int)))) (hz : n ≤ 40000)
    (ht : ∀ k, k < n → EvT tt (env.set j (.has (D (.int (k : Int))))) (p k)) (he : ∀ k, k < n → p k = true → EvR te (env.set j (.has (D (.int (k : Int))))) (D (f k))) :
    EvN (tLc (iRng1 (tCons ta tNil)) (gName j) tt te [j]) env (((List.range n).filter p).map f) := fun H0 F H σ o e Q q =>
  h H0 F H σ o e _ fun v F1 H1 g1 r1 => by
    refine ⟨(n : Int), by rw [dn_int r1], by omega, by omega, fun A hA => ?_⟩
    have hn : ((n : Int)).toNat = n := Int.toNat_natCast n
    rw [hn]
    refine lc_range (lo := 0) (n := n) (LcP F1 H1 A (ysOf p f (List.range n))) (lc_start g1.s hA rfl) (fun i H' hi pp => ?_) fun H' pp => ?_
    · have ei : (0 : Int) + (i : Int) = (i : Int) := Int.zero_add _
      rw [ei]
      exact lc_turn (o.gr g1) (e.trans g1.h) hA pp (R := D (.int (i : Int))) (.int _) (ht i hi) (he i hi) (ysOf_next (by rw [List.getElem?_range hi])) (Nat.le_trans ysOf_len (by rw [List.length_range]; exact hz))
    · obtain ⟨F2, acc, g2, f2, h2, d2⟩ := pp
      have e2 : ysOf p f (List.range n) n = ((List.range n).filter p).map f := by
        have := ysOf_all (p := p) (f := f) (xs := List.range n)
        rwa [List.length_range] at this
      rw [e2] at d2
      exact q A acc F2 H' (g1.trans g2) (g1.h.free hA) f2 h2 d2
/-- over range(a, a + n) -/
theorem evn_lcR2 (p : Nat → Bool) (f : Nat → PyData) {a n : Nat} (h : EvR ta env (D (.int (a : Int)))) (h' : EvR tb env (D (.int ((a : Int) + n)))) (hz : a + n ≤ 40000)
    (ht : ∀ k, k < n → EvT tt (env.set j (.has (D (.int ((a + k : Nat) : Int))))) (p (a + k))) (he : ∀ k, k < n → p (a + k) = true → EvR te (env.set j (.has (D (.int ((a + k : Nat) : Int))))) (D (f (a + k)))) :
    EvN (tLc (iRng2 (tCons ta (tCons tb tNil))) (gName j) tt te [j]) env (((List.range' a n).filter p).map f) := fun H0 F H σ o e Q q =>
  h H0 F H σ o e _ fun v F0 H0' g0 r0 => h' H0 F0 H0' σ (o.gr g0) (e.trans g0.h) _ fun w F1 H1 g1' r1 => by
    have g1 := g0.trans g1'
    refine ⟨(a : Int), (a : Int) + n, by rw [dn_int r0, dn_int r1], by omega, fun A hA => ?_⟩
    have hn : ((a : Int) + n - a).toNat = n := by omega
    rw [hn]
    refine lc_range (lo := (a : Int)) (n := n) (LcP F1 H1 A (ysOf p f (List.range' a n))) (lc_start g1.s hA rfl) (fun i H' hi pp => ?_) fun H' pp => ?_
    · have ei : (a : Int) + (i : Int) = ((a + i : Nat) : Int) := by omega
      rw [ei]
      exact lc_turn (o.gr g1) (e.trans g1.h) hA pp (R := D (.int ((a + i : Nat) : Int))) (.int _) (ht i hi) (he i hi) (ysOf_next (by rw [List.getElem?_range' hi]; simp)) (Nat.le_trans ysOf_len (by rw [List.length_range']; omega))
    · obtain ⟨F2, acc, g2, f2, h2, d2⟩ := pp
      have e2 : ysOf p f (List.range' a n) n = ((List.range' a n).filter p).map f := by
        have := ysOf_all (p := p) (f := f) (xs := List.range' a n)
        rwa [List.length_range'] at this
      rw [e2] at d2
      exact q A acc F2 H' (g1.trans g2) (g1.h.free hA) f2 h2 d2
theorem evt_yes : EvT tYes env true := fun H0 F H σ o e Q q => q F H (Gr.refl o.ex)
end

/-! ### calls -/
def Fs (S : List Pr → Pr → Prop) : Sp := fun vs H Q _ => ∃ Rs R F, S Rs R ∧ Ex F H ∧ AllP vs Rs F ∧ ∀ v F' H', Gr F H F' H' → R.p v F' → Q v H'
theorem Fs.len {S : List Pr → Pr → Prop} {n : Nat} (h : ∀ Rs R, S Rs R → Rs.length = n) {vs : List V} {H : Hp} {Q : VK} {E : XK} (q : Fs S vs H Q E) : vs.length = n := by
  obtain ⟨Rs, R, F, s, _, a, _⟩ := q
  rw [a.len, h Rs R s]
theorem evr_call {S : List Pr → Pr → Prop} {env : List Sl} {Rs : List Pr} {R : Pr} {tr : TA} {E : XK} (h : EvAs tr env Rs) (hs : S Rs R) : EvR (tCall (Fs S) [] E tr) env R := fun H0 F H σ o e Q q =>
  h H0 F H σ o e _ fun vs F1 H1 g1 r1 => ⟨Rs, R, F1, hs, g1.s, by rw [List.append_nil]; exact r1, fun v F' H' g r => q v F' H' (g1.trans g) r⟩

/-! ### statements -/
structure Po where
  nx : List Sl → Prop
  rt : Pr
  bk : List Sl → Prop := fun _ => False
  ct : List Sl → Prop := fun _ => False
structure Meets (F0 H0 Fl : Hp) (P : Po) (D : Ends) : Prop where
  nx : ∀ env F H σ, P.nx env → Gr F0 H0 F H → Ex Fl F → Ok H0 F H σ env → D.nx σ H
  rt : ∀ v F H, Gr F0 H0 F H → P.rt.p v F → D.rt v H
  bk : ∀ env F H σ, P.bk env → Gr F0 H0 F H → Ex Fl F → Ok H0 F H σ env → D.bk σ H
  ct : ∀ env F H σ, P.ct env → Gr F0 H0 F H → Ex Fl F → Ok H0 F H σ env → D.ct σ H
theorem Meets.up {F0 H0 F F' : Hp} {P : Po} {D : Ends} (m : Meets F0 H0 F P D) (e : Ex F F') : Meets F0 H0 F' P D :=
  ⟨fun a b c d n g x => m.nx a b c d n g (e.trans x), m.rt, fun a b c d n g x => m.bk a b c d n g (e.trans x), fun a b c d n g x => m.ct a b c d n g (e.trans x)⟩
def SE (F0 H0 : Hp) (t : TS) (env : List Sl) (P : Po) : Prop := ∀ F H σ D, Gr F0 H0 F H → Ok H0 F H σ env → Meets F0 H0 F P D → t D σ H
section
variable {F0 H0 : Hp} {t u w : TS} {env : List Sl} {P : Po} {te ta tb tl : TE} {tt : TT} {R : Pr} {ds : List PyData} {d : PyData} {i j k : Nat} {b : Bool} {K : PySem.W.Frag}
theorem se_seq (N : List Sl → Prop) (h1 : SE F0 H0 t env { P with nx := N }) (h2 : ∀ env', N env' → SE F0 H0 u env' P) : SE F0 H0 (tSeq t u) env P := fun F H σ D g o m =>
  h1 F H σ { D with nx := u D } g o ⟨fun env' F' H' σ' n g' e' o' => h2 env' n F' H' σ' D g' o' (m.up e'), m.rt, m.bk, m.ct⟩
theorem se_next (h : P.nx env) : SE F0 H0 tNext env P := fun F H σ D g o m => m.nx env F H σ h g (Ex.refl F) o
theorem se_break (h : P.bk env) : SE F0 H0 tBreak env P := fun F H σ D g o m => m.bk env F H σ h g (Ex.refl F) o
theorem se_cont (h : P.ct env) : SE F0 H0 tCont env P := fun F H σ D g o m => m.ct env F H σ h g (Ex.refl F) o
theorem se_asg (he : EvR te env R) (h : P.nx (env.set i (.has R))) : SE F0 H0 (tAsg te (gName i)) env P := fun F H σ D g o m =>
  he H0 F H σ o g.h _ fun v F1 H1 g1 r1 => m.nx _ F1 H1 _ h (g.trans g1) g1.f ((o.gr g1).setH r1)
theorem sq_asg (he : EvR te env R) (h : SE F0 H0 u (env.set i (.has R)) P) : SE F0 H0 (tSeq (tAsg te (gName i)) u) env P := fun F H σ D g o m =>
  he H0 F H σ o g.h _ fun v F1 H1 g1 r1 => h F1 H1 _ D (g.trans g1) ((o.gr g1).setH r1) (m.up g1.f)
theorem own_ne {F H : Hp} {σ : L2.St} {a : Addr} (o : Ok H0 F H σ env) (hn : H a = none) : ∀ j : Nat, j ≠ i → Ownd env j → σ[j]? ≠ some (some (.ref a)) := fun j _ hj hs => by
  rcases hj with ⟨ds, h⟩ | ⟨b, C, fr, h⟩
  · obtain ⟨b, xs, h1, h2, _⟩ := o.own j ds h
    rw [hs] at h1
    cases h1
    rw [hn] at h2
    cases h2
  · obtain ⟨dx, fs, h1, h2, _⟩ := o.ins j b C fr h
    rw [hs] at h1
    cases h1
    rw [hn] at h2
    cases h2
theorem se_own (he : EvN te env ds) (h : P.nx (env.set i (.own ds))) : SE F0 H0 (tAsg te (gName i)) env P := fun F H σ D g o m =>
  he H0 F H σ o g.h _ fun a xs F1 H1 g1 hn hf hl hd => m.nx _ F1 H1 _ h (g.trans g1) g1.f ((o.gr g1).setO hl hf (g.h.free hn) hd (own_ne o hn))
theorem sq_own (he : EvN te env ds) (h : SE F0 H0 u (env.set i (.own ds)) P) : SE F0 H0 (tSeq (tAsg te (gName i)) u) env P := fun F H σ D g o m =>
  he H0 F H σ o g.h _ fun a xs F1 H1 g1 hn hf hl hd => h F1 H1 _ D (g.trans g1) ((o.gr g1).setO hl hf (g.h.free hn) hd (own_ne o hn)) (m.up g1.f)
theorem se_app (hi : env[i]? = some (.own ds)) (he : EvR te env (Fz.D d)) (hz : ds.length ≤ 100000) (h : P.nx (env.set i (.own (ds ++ [d])))) : SE F0 H0 (tDrop (tBM K "list" rAppend (tVar i) (tCons te tNil))) env P := fun F H σ D g o m => by
  obtain ⟨a, xs, h1, h2, h3, h4, h5⟩ := o.own i ds hi
  refine ⟨.ref a, h1, .inl ⟨rfl, xs, SqL.of h2⟩, he H0 F H σ o g.h _ fun v F1 H1 g1 r1 => ?_⟩
  have hF1 : F1 a = none := g1.keep h3 (by rw [h2]; exact fun z => nomatch z)
  refine ⟨a, xs, v, rfl, rfl, g1.h _ _ h2, by rw [h5.len, sizeLine_eq]; omega, m.nx _ F1 _ σ h ((g.trans g1).put hF1 h4) g1.f ?_⟩
  exact (o.gr g1).mutO hi h1 ((DnA.up g1.f _ _ h5).app (.cons r1 .nil))
theorem sq_app (hi : env[i]? = some (.own ds)) (he : EvR te env (Fz.D d)) (hz : ds.length ≤ 100000) (h : SE F0 H0 u (env.set i (.own (ds ++ [d]))) P) : SE F0 H0 (tSeq (tDrop (tBM K "list" rAppend (tVar i) (tCons te tNil))) u) env P :=
  se_seq (fun e => e = env.set i (.own (ds ++ [d]))) (se_app hi he hz rfl) fun _ e => by rw [e]; exact h
theorem se_setL (hi : env[i]? = some (.own ds)) (he : EvR te env (Fz.D d)) (hj : EvR tb env (Fz.D (.int (k : Int)))) (hk : k < ds.length) (h : P.nx (env.set i (.own (ds.set k d)))) : SE F0 H0 (tAsg te (gSub (tVar i) tb rSetL)) env P := fun F H σ D g o m => by
  obtain ⟨a, xs, h1, h2, h3, h4, h5⟩ := o.own i ds hi
  refine he H0 F H σ o g.h _ fun v F1 H1 g1 r1 => ⟨.ref a, h1, hj H0 F1 H1 σ (o.gr g1) (g.h.trans g1.h) _ fun y F2 H2 g2 r2 => ?_⟩
  have g12 := g1.trans g2
  have hF2 : F2 a = none := g12.keep h3 (by rw [h2]; exact fun z => nomatch z)
  refine ⟨a, xs, (k : Int), k, rfl, dn_int r2, g12.h _ _ h2, ?_, m.nx _ F2 _ σ h ((g.trans g12).put hF2 h4) g12.f ?_⟩
  · unfold ixN
    rw [if_pos (by omega), if_pos (by rw [h5.len]; omega)]
    rfl
  · exact (o.gr g12).mutO hi h1 ((DnA.up g12.f _ _ h5).set k (Dn.up g2.f _ _ r1))
theorem sq_setL (hi : env[i]? = some (.own ds)) (he : EvR te env (Fz.D d)) (hj : EvR tb env (Fz.D (.int (k : Int)))) (hk : k < ds.length) (h : SE F0 H0 u (env.set i (.own (ds.set k d))) P) : SE F0 H0 (tSeq (tAsg te (gSub (tVar i) tb rSetL)) u) env P :=
  se_seq (fun e => e = env.set i (.own (ds.set k d))) (se_setL hi he hj hk rfl) fun _ e => by rw [e]; exact h
theorem se_if (hc : EvT tt env b) (h1 : b = true → SE F0 H0 t env P) (h2 : b = false → SE F0 H0 u env P) : SE F0 H0 (tIfS tt t u) env P := fun F H σ D g o m => hc H0 F H σ o g.h _ fun F1 H1 g1 => by
  cases b with
  | true => exact h1 rfl F1 H1 σ D (g.trans g1) (o.gr g1) (m.up g1.f)
  | false => exact h2 rfl F1 H1 σ D (g.trans g1) (o.gr g1) (m.up g1.f)
/-- if c: (it leaves); the rest -/
theorem sq_ifx (hc : EvT tt env b) (h1 : b = true → SE F0 H0 t env { P with nx := fun _ => False }) (h2 : b = false → SE F0 H0 w env P) : SE F0 H0 (tSeq (tIfS tt t tNext) w) env P :=
  se_seq (fun e => b = false ∧ e = env) (se_if hc (fun hb F H σ D g o m => h1 hb F H σ D g o ⟨fun _ _ _ _ z => z.elim, m.rt, m.bk, m.ct⟩) fun hb => se_next ⟨hb, rfl⟩) fun e he => by
    obtain ⟨hb, rfl⟩ := he
    exact h2 hb
theorem se_ret (he : EvR te env P.rt) : SE F0 H0 (tRet te) env P := fun F H σ D g o m => he H0 F H σ o g.h _ fun v F1 H1 g1 r1 => m.rt v F1 H1 (g.trans g1) r1
theorem se_drop (he : EvR te env R) (h : P.nx env) : SE F0 H0 (tDrop te) env P := fun F H σ D g o m => he H0 F H σ o g.h _ fun v F1 H1 g1 r1 => m.nx env F1 H1 σ h (g.trans g1) g1.f (o.gr g1)
theorem sq_drop (he : EvR te env R) (h : SE F0 H0 u env P) : SE F0 H0 (tSeq (tDrop te) u) env P := fun F H σ D g o m => he H0 F H σ o g.h _ fun v F1 H1 g1 r1 => h F1 H1 σ D (g.trans g1) (o.gr g1) (m.up g1.f)
theorem se_freeze (i : Nat) (hi : env[i]? = some (.own ds)) (h : SE F0 H0 t (env.set i (.has (Fz.D (.list ds)))) P) : SE F0 H0 t env P := fun F H σ D g o m => by
  obtain ⟨a, xs, h1, h2, h3, h4, o'⟩ := o.freeze hi
  exact h _ H σ D (g.freeze h3 h4 h2) o' (m.up (Ex.new h3))
theorem se_imp {P' : Po} (h : SE F0 H0 t env P') (h1 : ∀ e, P'.nx e → P.nx e) (h2 : ∀ v F, P'.rt.p v F → P.rt.p v F) (h3 : ∀ e, P'.bk e → P.bk e) (h4 : ∀ e, P'.ct e → P.ct e) : SE F0 H0 t env P := fun F H σ D g o m =>
  h F H σ D g o ⟨fun e F' H' σ' n => m.nx e F' H' σ' (h1 e n), fun v F' H' g' r => m.rt v F' H' g' (h2 v F' r), fun e F' H' σ' n => m.bk e F' H' σ' (h3 e n), fun e F' H' σ' n => m.ct e F' H' σ' (h4 e n)⟩
/-- a slot is forgotten -/
theorem se_forget (i : Nat) (h : SE F0 H0 t (env.set i .no) P) : SE F0 H0 t env P := fun F H σ D g o m => by
  have e : ∃ x, σ.set i x = σ := by
    by_cases hl : i < σ.length
    · exact ⟨σ[i], by simp⟩
    · exact ⟨none, by rw [List.set_eq_of_length_le (by omega)]⟩
  obtain ⟨x, e⟩ := e
  have o' := o.setN (i := i) (x := x)
  rw [e] at o'
  exact h F H σ D g o' m
/-! loops -/
def LpI (F0 H0 F1 : Hp) (Iv : Nat → List Sl → Prop) (i : Nat) (σ : L2.St) (H : Hp) : Prop := ∃ env F, Iv i env ∧ Gr F0 H0 F H ∧ Ok H0 F H σ env ∧ Ex F1 F
theorem lp_body {F1 F : Hp} {Iv : Nat → List Sl → Prop} {D : Ends} {i : Nat} (m : Meets F0 H0 F1 P D) (e : Ex F1 F) :
    Meets F0 H0 F { P with nx := Iv (i + 1), ct := Iv (i + 1), bk := P.nx } { D with nx := LpI F0 H0 F1 Iv (i + 1), ct := LpI F0 H0 F1 Iv (i + 1), bk := D.nx } :=
  ⟨fun env F2 H2 σ2 n g2 e2 o2 => ⟨env, F2, n, g2, o2, e.trans e2⟩, m.rt, fun env F2 H2 σ2 n g2 e2 o2 => m.nx env F2 H2 σ2 n g2 (e.trans e2) o2, fun env F2 H2 σ2 n g2 e2 o2 => ⟨env, F2, n, g2, o2, e.trans e2⟩⟩
theorem se_forL (h : EvR tl env (Fz.D (.list ds))) (Iv : Nat → List Sl → Prop) (h0 : Iv 0 env) (hs : ∀ i d env', ds[i]? = some d → Iv i env' → SE F0 H0 t (env'.set j (.has (Fz.D d))) { P with nx := Iv (i + 1), ct := Iv (i + 1), bk := P.nx })
    (hd : ∀ env', Iv ds.length env' → P.nx env') : SE F0 H0 (tFor (iList K tl) (gName j) t) env P := fun F H σ D g o m =>
  h H0 F H σ o g.h _ fun v F1 H1 g1 r1 => by
    cases r1 with
    | @lst a vs _ q1 q2 =>
      have m1 := m.up g1.f
      refine ⟨a, rfl, ⟨vs, SqL.of (g1.s _ _ q1)⟩, for_list (xs := vs) (LpI F0 H0 F1 Iv) ⟨env, F1, h0, g.trans g1, o.gr g1, Ex.refl _⟩ (fun i σ' H' _ pp => ?_) (fun i x σ' H' hi pp => ?_) fun σ' H' pp => ?_⟩
      · obtain ⟨env', F', _, g', _, e'⟩ := pp
        exact SqL.of (g'.s _ _ (e' _ _ q1))
      · obtain ⟨env', F', iv, g', o', e'⟩ := pp
        obtain ⟨d, hd', dv⟩ := q2.getv hi
        exact hs i d env' hd' iv F' H' _ _ g' (o'.setH (Dn.up e' _ _ dv)) (lp_body m1 e')
      · obtain ⟨env', F', iv, g', o', e'⟩ := pp
        rw [q2.len] at iv
        exact m1.nx env' F' H' σ' (hd env' iv) g' e' o'
theorem se_forT (h : EvR tl env (Fz.D (.tuple ds))) (Iv : Nat → List Sl → Prop) (h0 : Iv 0 env) (hs : ∀ i d env', ds[i]? = some d → Iv i env' → SE F0 H0 t (env'.set j (.has (Fz.D d))) { P with nx := Iv (i + 1), ct := Iv (i + 1), bk := P.nx })
    (hd : ∀ env', Iv ds.length env' → P.nx env') : SE F0 H0 (tFor (iTup K tl) (gName j) t) env P := fun F H σ D g o m =>
  h H0 F H σ o g.h _ fun v F1 H1 g1 r1 => by
    cases r1 with
    | @tup a vs _ q1 q2 =>
      have m1 := m.up g1.f
      refine ⟨a, rfl, ⟨vs, SqT.of (g1.s _ _ q1)⟩, for_tup (xs := vs) (LpI F0 H0 F1 Iv) ⟨env, F1, h0, g.trans g1, o.gr g1, Ex.refl _⟩ (fun i σ' H' _ pp => ?_) (fun i x σ' H' hi pp => ?_) fun σ' H' pp => ?_⟩
      · obtain ⟨env', F', _, g', _, e'⟩ := pp
        exact SqT.of (g'.s _ _ (e' _ _ q1))
      · obtain ⟨env', F', iv, g', o', e'⟩ := pp
        obtain ⟨d, hd', dv⟩ := q2.getv hi
        exact hs i d env' hd' iv F' H' _ _ g' (o'.setH (Dn.up e' _ _ dv)) (lp_body m1 e')
      · obtain ⟨env', F', iv, g', o', e'⟩ := pp
        rw [q2.len] at iv
        exact m1.nx env' F' H' σ' (hd env' iv) g' e' o'
theorem se_forR1 {n : Nat} (h : EvR ta env (Fz.D (.int (n : Int)))) (hz : n ≤ 100000) (Iv : Nat → List Sl → Prop) (h0 : Iv 0 env) (hs : ∀ i env', i < n → Iv i env' → SE F0 H0 t (env'.set j (.has (Fz.D (.int (i : Int))))) { P with nx := Iv (i + 1), ct := Iv (i + 1), bk := P.nx })
    (hd : ∀ env', Iv n env' → P.nx env') : SE F0 H0 (tFor (iRng1 (tCons ta tNil)) (gName j) t) env P := fun F H σ D g o m =>
  h H0 F H σ o g.h _ fun v F1 H1 g1 r1 => by
    have m1 := m.up g1.f
    refine ⟨(n : Int), by rw [dn_int r1], by omega, by omega, ?_⟩
    rw [Int.toNat_natCast]
    refine for_range (lo := 0) (n := n) (LpI F0 H0 F1 Iv) ⟨env, F1, h0, g.trans g1, o.gr g1, Ex.refl _⟩ (fun i σ' H' hi pp => ?_) fun σ' H' pp => ?_
    · obtain ⟨env', F', iv, g', o', e'⟩ := pp
      rw [Int.zero_add]
      exact hs i env' hi iv F' H' _ _ g' (o'.setH (show (Fz.D (.int (i : Int))).p _ F' from .int _)) (lp_body m1 e')
    · obtain ⟨env', F', iv, g', o', e'⟩ := pp
      exact m1.nx env' F' H' σ' (hd env' iv) g' e' o'
theorem se_forR2 {a n : Nat} (h : EvR ta env (Fz.D (.int (a : Int)))) (h' : EvR tb env (Fz.D (.int ((a : Int) + n)))) (hz : a + n ≤ 100000) (Iv : Nat → List Sl → Prop) (h0 : Iv 0 env)
    (hs : ∀ i env', i < n → Iv i env' → SE F0 H0 t (env'.set j (.has (Fz.D (.int ((a + i : Nat) : Int))))) { P with nx := Iv (i + 1), ct := Iv (i + 1), bk := P.nx })
    (hd : ∀ env', Iv n env' → P.nx env') : SE F0 H0 (tFor (iRng2 (tCons ta (tCons tb tNil))) (gName j) t) env P := fun F H σ D g o m =>
  h H0 F H σ o g.h _ fun v Fa Ha ga ra => h' H0 Fa Ha σ (o.gr ga) (g.h.trans ga.h) _ fun w F1 H1 gb r1 => by
    have g1 := ga.trans gb
    have m1 := m.up g1.f
    refine ⟨(a : Int), (a : Int) + n, by rw [dn_int ra, dn_int r1], by omega, ?_⟩
    rw [show ((a : Int) + n - a).toNat = n by omega]
    refine for_range (lo := (a : Int)) (n := n) (LpI F0 H0 F1 Iv) ⟨env, F1, h0, g.trans g1, o.gr g1, Ex.refl _⟩ (fun i σ' H' hi pp => ?_) fun σ' H' pp => ?_
    · obtain ⟨env', F', iv, g', o', e'⟩ := pp
      rw [show (a : Int) + (i : Int) = ((a + i : Nat) : Int) by omega]
      exact hs i env' hi iv F' H' _ _ g' (o'.setH (show (Fz.D (.int ((a + i : Nat) : Int))).p _ F' from .int _)) (lp_body m1 e')
    · obtain ⟨env', F', iv, g', o', e'⟩ := pp
      exact m1.nx env' F' H' σ' (hd env' iv) g' e' o'
end

/-! ### a def's body -/
theorem ok_start0 {F H : Hp} {Rs : List Pr} {vs : List V} {N : List Str} {n : Nat} (hn : N.length = n) (e : Ex F H) (ha : AllP vs Rs F) : Ok H F H (L2.start N vs) (Rs.map .has ++ List.replicate (n - Rs.length) .no) := by
  subst hn
  have key : ∀ (vs : List V) (Rs : List Pr), AllP vs Rs F → ∀ (i : Nat) (R : Pr), Rs[i]? = some R → ∃ v, vs[i]? = some v ∧ R.p v F := by
    intro vs Rs
    induction vs generalizing Rs with
    | nil =>
      intro h i R q
      cases Rs with
      | nil => simp at q
      | cons _ _ => exact h.elim
    | cons v vs ih =>
      intro h i R q
      cases Rs with
      | nil => exact h.elim
      | cons R' Rs =>
        cases i with
        | zero => simp at q; subst q; exact ⟨v, rfl, h.1⟩
        | succ i => simpa using ih Rs h.2 i R (by simpa using q)
  have no : ∀ (i : Nat) (s : Sl), (Rs.map Sl.has ++ List.replicate (N.length - Rs.length) Sl.no)[i]? = some s → (∃ R, s = .has R ∧ Rs[i]? = some R) ∨ s = .no := by
    intro i s hs
    rw [List.getElem?_append] at hs
    split at hs
    · rw [List.getElem?_map] at hs
      cases q : Rs[i]? with
      | none => rw [q] at hs; cases hs
      | some R => rw [q] at hs; exact .inl ⟨R, (Option.some.inj hs).symm, rfl⟩
    · rw [List.getElem?_replicate] at hs
      split at hs
      · exact .inr (Option.some.inj hs).symm
      · cases hs
  have hl := ha.len
  refine ⟨e, fun i R q => ?_, fun i ds q => ?_, fun i b C fr q => ?_, fun i j a _ o1 _ _ _ => ?_, ?_⟩
  · rcases no i _ q with ⟨R', e1, e2⟩ | e1
    · cases e1
      obtain ⟨v, h1, h2⟩ := key vs Rs ha i R e2
      refine ⟨v, ?_, h2⟩
      unfold L2.start
      have li : i < (vs.map some).length := by rw [List.length_map]; exact (List.getElem?_eq_some_iff.mp h1).1
      rw [List.getElem?_append_left li, List.getElem?_map, h1]
      rfl
    · cases e1
  · rcases no i _ q with ⟨R', e1, e2⟩ | e1 <;> cases e1
  · rcases no i _ q with ⟨R', e1, e2⟩ | e1 <;> cases e1
  · rcases o1 with ⟨ds, q⟩ | ⟨b, C, fr, q⟩
    · rcases no i _ q with ⟨R', e1, e2⟩ | e1 <;> cases e1
    · rcases no i _ q with ⟨R', e1, e2⟩ | e1 <;> cases e1
  · unfold L2.start
    simp [hl]
theorem se_body {F H : Hp} {Rs : List Pr} {R : Pr} {vs : List V} {N : List Str} {t : TS} {Q : VK} {n : Nat} (hn : N.length = n) (e : Ex F H) (ha : AllP vs Rs F) (hq : ∀ v F' H', Gr F H F' H' → R.p v F' → Q v H')
    (h : SE F H t (Rs.map .has ++ List.replicate (n - Rs.length) .no) { nx := fun _ => False, rt := R }) : t { nx := fun _ H' => Q .non H', rt := Q } (L2.start N vs) H :=
  h F H _ _ (Gr.refl e) (ok_start0 hn e ha) ⟨fun _ _ _ _ z => z.elim, fun v F' H' g r => hq v F' H' g r, fun _ _ _ _ z => z.elim, fun _ _ _ _ z => z.elim⟩
end Fz

/-! text BmBase -/
set_option Elab.async false
set_option linter.all false
set_option maxRecDepth 100000
set_option maxHeartbeats 4000000
namespace Bm
open PySem PySem.Spec PyProof.Rows L2 Fz
def topS (i : Nat) : Stmt := PySem.Challenge.pw_beadmoot_k34_whole_good_books.main.body.getD i (.Pass ⟨0, 0, 0, 0⟩)
/-- the written part, and where the classes stand -/
structure Zt where
  K : PySem.W.Frag
  CB : Addr
  CS : Addr
  CE : Addr
/-- the built-ins stand -/
structure Tx0 (mg : Str → Option Value) : Prop where
  len : mg "len" = none
  range : mg "range" = none
  list : mg "list" = none
  tuple : mg "tuple" = none
  int : mg "int" = none
  min : mg "min" = none
  max : mg "max" = none
  sorted : mg "sorted" = none
  enumerate : mg "enumerate" = none
  set : mg "set" = none
/-- operations by values -/
abbrev xAdd : R2 := rI0 fun i j => .int (i + j)
abbrev xSub : R2 := rI0 fun i j => .int (i - j)
abbrev xMul : R2 := rI CMul fun i j => .int (i * j)
abbrev xMod : R2 := rI (fun _ j => 0 < j) fun i j => .int (i % j)
abbrev xFdv : R2 := rI CDiv fun i j => .int (i / j)
abbrev xPow : R2 := rI CPow fun i j => .int (i ^ j.toNat)
abbrev xLt : R2 := rI0 fun i j => .bl (decide (i < j))
abbrev xLe : R2 := rI0 fun i j => .bl (decide (i ≤ j))
abbrev xGt : R2 := rI0 fun i j => .bl (decide (j < i))
abbrev xGe : R2 := rI0 fun i j => .bl (decide (j ≤ i))
abbrev xNeg : V → Hp → VK → Prop := rU fun i => .int (-i)
abbrev xIsN : R2 := fun x y H Q => y = .non ∧ Q (.bl (decide (x = .non))) H
abbrev xNotN : R2 := fun x y H Q => y = .non ∧ Q (.bl (!decide (x = .non))) H
abbrev xInt1 : List V → Hp → VK → Prop := fun xs H Q => (∃ i, xs = [.int i] ∧ Q (.int i) H) ∨ ∃ k, xs = [.bl k] ∧ Q (.int (if k then 1 else 0)) H
abbrev xMax2 : List V → Hp → VK → Prop := fun xs H Q => ∃ i j, xs = [.int i, .int j] ∧ Q (.int (if j > i then j else i)) H
abbrev xMin2 : List V → Hp → VK → Prop := fun xs H Q => ∃ i j, xs = [.int i, .int j] ∧ Q (.int (if j < i then j else i)) H
abbrev xList (K : PySem.W.Frag) : List V → Hp → VK → Prop := fun xs H Q => ∃ p ys, xs = [.ref p] ∧ (SqL K H p ys ∨ SqT K H p ys) ∧ ∀ l, H l = none → Q (.ref l) (upd H l (.lst ys))
/-- a def that keeps its promise, to be called -/
def Cal (P : Program) (w : World) (K : PySem.W.Frag) (mg : Str → Option Value) (base : Heap) (x : Str) (k : Nat) (ps : List Str) (sp : Sp) : Prop :=
  ∃ (f : Addr) (fd : FuncData), mg x = some (.ref f) ∧ PySem.W.keepIn K (.ref f) = true ∧ Binds K fd ps [] ∧ FnOk P w K mg base CX0 k f fd ps sp
theorem pe_cal {X : Cx} {x : Str} {k : Nat} {ps : List Str} {sp : Sp} {p pos : Pos} {e : Expr} {es : List Expr} {t : TA} (C : Cal X.prog X.w X.K X.mg X.base x k ps sp) (hr : Room k X.A) (ha : PA X (e :: es) t) (hg : Gl X x := by rfl)
    (hdb : (x == ("__debug__" : Str)) = false := by decide) (he : starEach (e :: es) X.env = (false, eval e X.env) :: starEach es X.env := by rfl) (hpl : (backTo pos (starEach es X.env)).any (·.1) = false := by rfl) :
    PE X (.Call (.Name x p) (e :: es) [] pos) (tCall sp [] E0 t) := by
  obtain ⟨f, fd, hm, hk, hb, hF⟩ := C
  exact pe_call hF hr hg hm hk hb .nil pass0 ha hdb he hpl
theorem room64 {k : Nat} {A : Around} (r : Room k A) : A.units + 64 < cLine := by have := r.un; omega
theorem room65 {k : Nat} {A : Around} (r : Room k A) : A.units + 65 < cLine := by have := r.un; omega
/-! data -/
abbrev dN (n : Nat) : PyData := .int (n : Int)
abbrev dI (i : Int) : PyData := .int i
abbrev dNs (ns : List Nat) : PyData := .list (ns.map dN)
abbrev dIs (ns : List Int) : PyData := .list (ns.map dI)
abbrev tNs (ns : List Nat) : PyData := .tuple (ns.map dN)
abbrev dP (q : Nat × Nat) : PyData := .tuple [dN q.1, dN q.2]
abbrev dRs (rs : List (List Nat)) : PyData := .list (rs.map tNs)
end Bm

/-! text BmLm -/
set_option Elab.async false
set_option linter.all false
set_option maxRecDepth 100000
set_option maxHeartbeats 4000000
namespace Bm
open PySem PySem.Spec PyProof.Rows L2 Fz
section
variable {env : List Sl} {ta tb te : TE} {K : PySem.W.Frag} {β : Type} {enc : β → PyData} {xs : List β} {x : β} {i : Nat} {d d' : PyData}
theorem evr_is (h : EvR te env (D d)) (e : d = d') : EvR te env (D d') := e ▸ h
theorem at_map (h : xs[i]? = some x) : atI (xs.map enc) (i : Int) = some (enc x) := atI_nat (by rw [List.getElem?_map, h]; rfl)
theorem evr_lenM (h : EvR ta env (D (.list (xs.map enc)))) : EvR (tCB (Fz.rLenS K) (tCons ta tNil)) env (D (.int (xs.length : Int))) := evr_is (evr_lenL h) (by rw [List.length_map])
theorem evr_lenTM (h : EvR ta env (D (.tuple (xs.map enc)))) : EvR (tCB (Fz.rLenS K) (tCons ta tNil)) env (D (.int (xs.length : Int))) := evr_is (evr_lenT h) (by rw [List.length_map])
theorem evr_ixM (h : EvR ta env (D (.list (xs.map enc)))) (h2 : EvR tb env (D (.int (i : Int)))) (hx : xs[i]? = some x) : EvR (tOp (rIxL K) ta tb) env (D (enc x)) := evr_ixL h h2 (at_map hx)
theorem evr_ixTM (h : EvR ta env (D (.tuple (xs.map enc)))) (h2 : EvR tb env (D (.int (i : Int)))) (hx : xs[i]? = some x) : EvR (tOp (rIxT K) ta tb) env (D (enc x)) := evr_ixT h h2 (at_map hx)
theorem evr_ixN {l : List Nat} {x : Nat} (h : EvR ta env (D (dNs l))) (h2 : EvR tb env (D (.int (i : Int)))) (hx : l[i]? = some x) : EvR (tOp (rIxL K) ta tb) env (D (dN x)) := evr_ixM (enc := dN) h h2 hx
theorem evr_ixI {l : List Int} {x : Int} (h : EvR ta env (D (dIs l))) (h2 : EvR tb env (D (.int (i : Int)))) (hx : l[i]? = some x) : EvR (tOp (rIxL K) ta tb) env (D (dI x)) := evr_ixM (enc := dI) h h2 hx
theorem evr_ixTI {l : List Int} {x : Int} (h : EvR ta env (D (.tuple (l.map dI)))) (h2 : EvR tb env (D (.int (i : Int)))) (hx : l[i]? = some x) : EvR (tOp (rIxT K) ta tb) env (D (dI x)) := evr_ixTM (enc := dI) h h2 hx
theorem evr_ixTN {l : List Nat} {x : Nat} (h : EvR ta env (D (tNs l))) (h2 : EvR tb env (D (.int (i : Int)))) (hx : l[i]? = some x) : EvR (tOp (rIxT K) ta tb) env (D (dN x)) := evr_ixTM (enc := dN) h h2 hx
theorem evn_nil : EvN (tLst tNil) env [] := evn_lst (ds := []) eva_nil (by decide)
theorem nbeq {a b : Nat} : ((a : Int) == (b : Int)) = (a == b) := by
  rw [Bool.eq_iff_iff]; simp; omega
end
end Bm

/-! text BmEx -/
set_option Elab.async false
set_option linter.all false
set_option maxRecDepth 100000
set_option maxHeartbeats 4000000
namespace Fz
open PySem L2
/-- some z with c z, and R z -/
def ExP {ι : Type} (c : ι → Prop) (R : ι → Pr) : Pr := ⟨fun v F => ∃ z, c z ∧ (R z).p v F, fun e ⟨z, hz, h⟩ => ⟨z, hz, (R z).up e h⟩⟩
section
variable {F0 H0 : Hp} {t u w : TS} {env : List Sl} {P : Po} {te ta tb tl : TE} {tt : TT} {R : Pr} {ds : List PyData} {d : PyData} {i j k : Nat} {b : Bool} {K : PySem.W.Frag} {ι : Type} {c : ι → Prop} {Rz : ι → Pr}
theorem exp_in {z : ι} (hz : c z) (h : EvR te env (Rz z)) : EvR te env (ExP c Rz) := h.imp fun v F r => ⟨z, hz, r⟩
/-- what a slot holds is opened -/
theorem se_open (i : Nat) (hi : env[i]? = some (.has (ExP c Rz))) (h : ∀ z, c z → SE F0 H0 t (env.set i (.has (Rz z))) P) : SE F0 H0 t env P := fun F H σ D g o m => by
  obtain ⟨v, hv, z, hz, r⟩ := o.has i _ hi
  have o' := o.setH (i := i) r
  have e : σ.set i (some v) = σ := by
    obtain ⟨hl, e⟩ := List.getElem?_eq_some_iff.mp hv
    rw [← e]
    simp
  rw [e] at o'
  exact h z hz F H σ D g o' m
/-- a test of which nothing is said -/
def EvU (tt : TT) (env : List Sl) : Prop := ∀ (H0 F H : Hp) (σ : L2.St), Ok H0 F H σ env → Ex H0 H → ∀ Q : Bool → Hp → Prop, (∀ b F' H', Gr F H F' H' → Q b H') → tt σ H Q
theorem se_ifU (hc : EvU tt env) (h1 : SE F0 H0 t env P) (h2 : SE F0 H0 u env P) : SE F0 H0 (tIfS tt t u) env P := fun F H σ D g o m => hc H0 F H σ o g.h _ fun b F1 H1 g1 => by
  cases b with
  | true => exact h1 F1 H1 σ D (g.trans g1) (o.gr g1) (m.up g1.f)
  | false => exact h2 F1 H1 σ D (g.trans g1) (o.gr g1) (m.up g1.f)
theorem evt_u (h : EvT tt env b) : EvU tt env := fun H0 F H σ o e Q q => h H0 F H σ o e Q fun F' H' g => q b F' H' g
theorem evu_isN {r : R2} (hr : r = fun x y H Q => y = .non ∧ Q (.bl (decide (x = .non))) H) (ha : EvR ta env R) : EvU (tTest (tOp r ta (tC .non))) env := fun H0 F H σ o e Q q =>
  ha H0 F H σ o e _ fun x F1 H1 g1 r1 => by
    rw [hr]
    exact ⟨rfl, _, rfl, q _ F1 H1 g1⟩
theorem evu_of {dz : ι → Bool} (h : EvR te env (ExP c fun z => D (.bool (dz z)))) : EvU (tTest te) env := fun H0 F H σ o e Q q =>
  h H0 F H σ o e _ fun x F1 H1 g1 ⟨z, _, r⟩ => ⟨dz z, dn_bl r, q _ F1 H1 g1⟩
theorem se_appE {dz : ι → PyData} (hi : env[i]? = some (.own ds)) (he : EvR te env (ExP c fun z => Fz.D (dz z))) (hz : ds.length ≤ 100000) (h : ∀ z, c z → P.nx (env.set i (.own (ds ++ [dz z])))) : SE F0 H0 (tDrop (tBM K "list" rAppend (tVar i) (tCons te tNil))) env P := fun F H σ D g o m => by
  obtain ⟨a, xs, h1, h2, h3, h4, h5⟩ := o.own i ds hi
  refine ⟨.ref a, h1, .inl ⟨rfl, xs, SqL.of h2⟩, he H0 F H σ o g.h _ fun v F1 H1 g1 ⟨z, cz, r1⟩ => ?_⟩
  have hF1 : F1 a = none := g1.keep h3 (by rw [h2]; exact fun z => nomatch z)
  refine ⟨a, xs, v, rfl, rfl, g1.h _ _ h2, by rw [h5.len, sizeLine_eq]; omega, m.nx _ F1 _ σ (h z cz) ((g.trans g1).put hF1 h4) g1.f ?_⟩
  exact (o.gr g1).mutO hi h1 ((DnA.up g1.f _ _ h5).app (.cons r1 .nil))
/-- some int -/
def PZ : Pr := ExP (fun _ : Int => True) fun z => D (.int z)
/-- some number below m -/
def PL (m : Nat) : Pr := ExP (fun n : Nat => n < m) fun n => D (.int (n : Int))
theorem pz_in {i : Int} (h : EvR te env (D (.int i))) : EvR te env PZ := exp_in (z := i) True.intro h
theorem evr_intZ (h : EvR te env PZ) : EvR (tCB (fun xs H Q => (∃ i, xs = [.int i] ∧ Q (.int i) H) ∨ ∃ k, xs = [.bl k] ∧ Q (.int (if k then 1 else 0)) H) (tCons te tNil)) env PZ := fun H0 F H σ o e Q q =>
  h H0 F H σ o e _ fun x F1 H1 g1 ⟨z, _, r1⟩ => .inl ⟨z, by rw [dn_int r1], q _ F1 H1 g1 ⟨z, True.intro, .int z⟩⟩
theorem evr_modZ {m : Nat} (ha : EvR ta env PZ) (hb : EvR tb env (D (.int (m : Int)))) (hm : 0 < m) : EvR (tOp (rI (fun _ j => 0 < j) fun i j => .int (i % j)) ta tb) env (PL m) := fun H0 F H σ o e Q q =>
  ev2 ha hb o e fun x y F' H' gr ⟨z, _, hx⟩ hy => ⟨z, m, dn_int hx, dn_int hy, by omega, q _ F' H' gr ⟨(z % (m : Int)).toNat, by
    have h1 : 0 ≤ z % (m : Int) := Int.emod_nonneg z (by omega)
    have h2 : z % (m : Int) < m := Int.emod_lt_of_pos z (by omega)
    omega, by
    have h1 : 0 ≤ z % (m : Int) := Int.emod_nonneg z (by omega)
    show Dn F' (.int (z % (m : Int))) (.int (((z % (m : Int)).toNat : Nat) : Int))
    rw [Int.toNat_of_nonneg h1]
    exact .int _⟩⟩
end
end Fz
namespace Bm
open PySem PySem.Spec PyProof.Rows L2 Fz
/-- the script -/
def Scr (K : PySem.W.Frag) (ns : List Int) : Pr := ⟨fun v F => ∃ a, v = .ref a ∧ SqL K F a (ns.map V.int), fun {v F F'} e ⟨a, h1, h2⟩ => ⟨a, h1, by
  rcases h2 with (h | ⟨o, h⟩) | h
  · exact .inl (.inl (e _ _ h))
  · exact .inl (.inr ⟨o, e _ _ h⟩)
  · exact .inr h⟩⟩
section
variable {env : List Sl} {ta tb te : TE} {K : PySem.W.Frag} {i : Nat} {ns : List Int} {x : Int}
theorem sql_up {F H : Hp} {a : Addr} {xs : List V} (e : Fz.Ex F H) (h : SqL K F a xs) : SqL K H a xs := by
  rcases h with (h | ⟨o, h⟩) | h
  · exact .inl (.inl (e _ _ h))
  · exact .inl (.inr ⟨o, e _ _ h⟩)
  · exact .inr h
theorem evr_lenSc (h : EvR ta env (Scr K ns)) : EvR (tCB (Fz.rLenS K) (tCons ta tNil)) env (D (.int (ns.length : Int))) := fun H0 F H σ o e Q q =>
  h H0 F H σ o e _ fun v F1 H1 g1 ⟨a, ea, r1⟩ => ⟨a, _, by rw [ea], .inl (sql_up g1.s r1), q _ F1 H1 g1 (by rw [List.length_map]; exact .int _)⟩
theorem evr_ixSc (h : EvR ta env (Scr K ns)) (h2 : EvR tb env (D (.int (i : Int)))) (hx : ns[i]? = some x) : EvR (tOp (rIxL K) ta tb) env (D (.int x)) := fun H0 F H σ o e Q q =>
  ev2 h h2 o e fun v y F' H' gr ⟨a, ea, r1⟩ hy => ⟨a, _, _, .int x, ea, dn_int hy, sql_up gr.s r1, atI_nat (by rw [List.getElem?_map, hx]; rfl), q _ F' H' gr (.int x)⟩
/-! ints -/
variable {a b : Int} {m n : Nat}
theorem evr_add (ha : EvR ta env (D (.int a))) (hb : EvR tb env (D (.int b))) : EvR (tOp xAdd ta tb) env (D (.int (a + b))) := evr_I0 ha hb fun _ => .int _
theorem evr_sub (ha : EvR ta env (D (.int a))) (hb : EvR tb env (D (.int b))) : EvR (tOp xSub ta tb) env (D (.int (a - b))) := evr_I0 ha hb fun _ => .int _
theorem evr_mul (ha : EvR ta env (D (.int a))) (hb : EvR tb env (D (.int b))) (h : CMul a b) : EvR (tOp xMul ta tb) env (D (.int (a * b))) := evr_I ha hb h fun _ => .int _
theorem evr_mod (ha : EvR ta env (D (.int a))) (hb : EvR tb env (D (.int b))) (h : 0 < b) : EvR (tOp xMod ta tb) env (D (.int (a % b))) := evr_I ha hb h fun _ => .int _
theorem evr_fdv (ha : EvR ta env (D (.int a))) (hb : EvR tb env (D (.int b))) (h : CDiv a b) : EvR (tOp xFdv ta tb) env (D (.int (a / b))) := evr_I ha hb h fun _ => .int _
theorem evr_pow (ha : EvR ta env (D (.int a))) (hb : EvR tb env (D (.int b))) (h : CPow a b) : EvR (tOp xPow ta tb) env (D (.int (a ^ b.toNat))) := evr_I ha hb h fun _ => .int _
theorem evr_neg (ha : EvR ta env (D (.int a))) : EvR (tUn xNeg ta) env (D (.int (-a))) := evr_U ha fun _ => .int _
theorem evt_lt (ha : EvR ta env (D (.int a))) (hb : EvR tb env (D (.int b))) : EvT (tTest (tOp xLt ta tb)) env (decide (a < b)) := evt_I0 ha hb
theorem evt_gt (ha : EvR ta env (D (.int a))) (hb : EvR tb env (D (.int b))) : EvT (tTest (tOp xGt ta tb)) env (decide (b < a)) := evt_I0 (g := fun i j => decide (j < i)) ha hb
theorem evt_ge (ha : EvR ta env (D (.int a))) (hb : EvR tb env (D (.int b))) : EvT (tTest (tOp xGe ta tb)) env (decide (b ≤ a)) := evt_I0 (g := fun i j => decide (j ≤ i)) ha hb
theorem evt_le (ha : EvR ta env (D (.int a))) (hb : EvR tb env (D (.int b))) : EvT (tTest (tOp xLe ta tb)) env (decide (a ≤ b)) := evt_I0 ha hb
/-- naturals -/
theorem evr_addN (ha : EvR ta env (D (dN m))) (hb : EvR tb env (D (dN n))) : EvR (tOp xAdd ta tb) env (D (dN (m + n))) := evr_is (evr_add ha hb) (by simp)
theorem evr_mulN (ha : EvR ta env (D (dN m))) (hb : EvR tb env (D (dN n))) (h : m < 1000000) : EvR (tOp xMul ta tb) env (D (dN (m * n))) := evr_is (evr_mul ha hb (.inl (by omega))) (by simp)
theorem evr_modN (ha : EvR ta env (D (dN m))) (hb : EvR tb env (D (dN n))) (h : 0 < n) : EvR (tOp xMod ta tb) env (D (dN (m % n))) := evr_is (evr_mod ha hb (by omega)) (by simp)
theorem evr_subN (ha : EvR ta env (D (dN m))) (hb : EvR tb env (D (dN n))) (h : n ≤ m) : EvR (tOp xSub ta tb) env (D (dN (m - n))) := evr_is (evr_sub ha hb) (by simp; omega)
theorem evt_eqN (ha : EvR ta env (D (dN m))) (hb : EvR tb env (D (dN n))) : EvT (tTest (tOp rEq ta tb)) env (m == n) := evt_is (evt_eqI ha hb) nbeq
theorem evt_neN (ha : EvR ta env (D (dN m))) (hb : EvR tb env (D (dN n))) : EvT (tTest (tOp rNe ta tb)) env (m != n) := evt_is (evt_neI ha hb) (by rw [nbeq]; rfl)
theorem evr_cN {k : Int} (h : k = (n : Int)) : EvR (tC (.int k)) env (D (dN n)) := by subst h; exact evr_int
theorem evr_tup2 {d1 d2 : PyData} (ha : EvR ta env (D d1)) (hb : EvR tb env (D d2)) : EvR (tTup (tCons ta (tCons tb tNil))) env (D (.tuple [d1, d2])) := evr_tup (ds := [d1, d2]) (eva_cons ha (eva_cons hb eva_nil)) (by show 2 ≤ _; decide)
theorem evr_tup3 {d1 d2 d3 : PyData} {tc : TE} (ha : EvR ta env (D d1)) (hb : EvR tb env (D d2)) (hc : EvR tc env (D d3)) : EvR (tTup (tCons ta (tCons tb (tCons tc tNil)))) env (D (.tuple [d1, d2, d3])) := evr_tup (ds := [d1, d2, d3]) (eva_cons ha (eva_cons hb (eva_cons hc eva_nil))) (by show 3 ≤ _; decide)
theorem evn_one {d : PyData} (ha : EvR ta env (D d)) : EvN (tLst (tCons ta tNil)) env [d] := evn_lst (ds := [d]) (eva_cons ha eva_nil) (by show 1 ≤ _; decide)
/-! comprehensions without if -/
theorem evn_lcLy {j : Nat} {tl : TE} {β : Type} (enc : β → PyData) (f : β → PyData) {xs : List β} (h : EvR tl env (D (.list (xs.map enc)))) (hz : xs.length ≤ 40000)
    (he : ∀ x ∈ xs, EvR te (env.set j (.has (D (enc x)))) (D (f x))) : EvN (tLc (iList K tl) (gName j) tYes te [j]) env (xs.map f) := by
  have e1 := evn_lcL (j := j) (K := K) enc (fun _ => true) f h hz (fun _ _ => evt_yes) (fun x hx _ => he x hx)
  rwa [List.filter_eq_self.mpr (fun _ _ => rfl)] at e1
theorem evn_lcTy {j : Nat} {tl : TE} {β : Type} (enc : β → PyData) (f : β → PyData) {xs : List β} (h : EvR tl env (D (.tuple (xs.map enc)))) (hz : xs.length ≤ 40000)
    (he : ∀ x ∈ xs, EvR te (env.set j (.has (D (enc x)))) (D (f x))) : EvN (tLc (iTup K tl) (gName j) tYes te [j]) env (xs.map f) := by
  have e1 := evn_lcT (j := j) (K := K) enc (fun _ => true) f h hz (fun _ _ => evt_yes) (fun x hx _ => he x hx)
  rwa [List.filter_eq_self.mpr (fun _ _ => rfl)] at e1
theorem evn_lcRy {j : Nat} (f : Nat → PyData) {n : Nat} (h : EvR ta env (D (.int (n : Int)))) (hz : n ≤ 40000) (he : ∀ k, k < n → EvR te (env.set j (.has (D (.int (k : Int))))) (D (f k))) :
    EvN (tLc (iRng1 (tCons ta tNil)) (gName j) tYes te [j]) env ((List.range n).map f) := by
  have e1 := evn_lcR1 (j := j) (fun _ => true) f h hz (fun _ _ => evt_yes) (fun k hk _ => he k hk)
  rwa [List.filter_eq_self.mpr (fun _ _ => rfl)] at e1
theorem getD_lt {α : Type} {l : List α} {i : Nat} {x : α} (h : i < l.length) : l.getD i x = l[i] := by
  rw [List.getD_eq_getElem?_getD, List.getElem?_eq_getElem h]
  rfl
theorem evr_maxN (ha : EvR ta env (D (dN m))) (hb : EvR tb env (D (dN n))) : EvR (tCB xMax2 (tCons ta (tCons tb tNil))) env (D (dN (max m n))) := evr_is (evr_max2 ha hb) (by
  have : (if (n : Int) > (m : Int) then (n : Int) else (m : Int)) = ((max m n : Nat) : Int) := by split <;> omega
  rw [this])
theorem evr_minN (ha : EvR ta env (D (dN m))) (hb : EvR tb env (D (dN n))) : EvR (tCB xMin2 (tCons ta (tCons tb tNil))) env (D (dN (min m n))) := evr_is (evr_min2 ha hb) (by
  have : (if (n : Int) < (m : Int) then (n : Int) else (m : Int)) = ((min m n : Nat) : Int) := by split <;> omega
  rw [this])
theorem evr_p0 {q : Nat × Nat} (h : EvR ta env (D (dP q))) : EvR (tOp (rIxT K) ta (tC (.int 0))) env (D (dN q.1)) := evr_ixT h evr_int rfl
theorem evr_p1 {q : Nat × Nat} (h : EvR ta env (D (dP q))) : EvR (tOp (rIxT K) ta (tC (.int 1))) env (D (dN q.2)) := evr_ixT h evr_int rfl
/-! slices -/
theorem cut_take {ds : List PyData} (i : Nat) : Fz.cutD ds none (some (i : Int)) = ds.take i := by
  unfold Fz.cutD
  rw [HT.sIx_none, HT.sIx_nat, List.drop_zero, Nat.sub_zero]
  by_cases h : i ≤ ds.length
  · rw [Nat.min_eq_left h]
  · rw [Nat.min_eq_right (by omega), List.take_of_length_le (Nat.le_refl _), List.take_of_length_le (by omega)]
theorem cut_drop {ds : List PyData} (i : Nat) : Fz.cutD ds (some (i : Int)) none = ds.drop i := by
  unfold Fz.cutD
  rw [HT.sIx_none, HT.sIx_nat]
  by_cases h : i ≤ ds.length
  · rw [Nat.min_eq_left h, List.take_of_length_le (by rw [List.length_drop]; omega)]
  · rw [Nat.min_eq_right (by omega), List.drop_of_length_le (Nat.le_refl _), List.drop_of_length_le (by omega), List.take_nil]
theorem evn_takeM {ti : TE} {β : Type} {enc : β → PyData} {xs : List β} (h : EvR te env (D (.list (xs.map enc)))) (h2 : EvR ti env (D (dN n))) : EvN (tSl (rSlL K) te tNoPart (tPart ti)) env ((xs.take n).map enc) := by
  have := evn_slice (K := K) h evo_none (evo_some h2)
  rwa [cut_take, ← List.map_take] at this
theorem evn_dropM {ti : TE} {β : Type} {enc : β → PyData} {xs : List β} (h : EvR te env (D (.list (xs.map enc)))) (h2 : EvR ti env (D (dN n))) : EvN (tSl (rSlL K) te (tPart ti) tNoPart) env ((xs.drop n).map enc) := by
  have := evn_slice (K := K) h (evo_some h2) evo_none
  rwa [cut_drop, ← List.map_drop] at this
theorem evn_catM {β : Type} {enc : β → PyData} {xs ys : List β} (h : EvR ta env (D (.list (xs.map enc)))) (h2 : EvR tb env (D (.list (ys.map enc)))) (hl : xs.length + ys.length ≤ 100000) : EvN (tOp rCat ta tb) env ((xs ++ ys).map enc) := by
  have := evn_cat h h2 (by simpa using hl)
  rwa [← List.map_append] at this
theorem evn_listM {β : Type} {enc : β → PyData} {xs : List β} (h : EvR ta env (D (.list (xs.map enc)))) : EvN (tCB (xList K) (tCons ta tNil)) env (xs.map enc) := evn_list h
theorem at_last {α : Type} {xs : List α} {x : α} (h : xs[xs.length - 1]? = some x) : atI xs (-1) = some x := by
  have hl : xs.length - 1 < xs.length := (List.getElem?_eq_some_iff.mp h).1
  unfold atI ixN
  rw [if_neg (by omega), if_pos (by omega)]
  show xs[(-1 + (xs.length : Int)).toNat]? = some x
  rw [show (-1 + (xs.length : Int)).toNat = xs.length - 1 by omega]
  exact h
/-! loops over typed lists -/
variable {F0 H0 : Hp} {t : TS} {P : Po} {j : Nat} {tl : TE}
theorem se_forLM {β : Type} (enc : β → PyData) {xs : List β} (h : EvR tl env (D (.list (xs.map enc)))) (Iv : Nat → List Sl → Prop) (h0 : Iv 0 env)
    (hs : ∀ i x env', xs[i]? = some x → Iv i env' → SE F0 H0 t (env'.set j (.has (D (enc x)))) { P with nx := Iv (i + 1), ct := Iv (i + 1), bk := P.nx })
    (hd : ∀ env', Iv xs.length env' → P.nx env') : SE F0 H0 (tFor (iList K tl) (gName j) t) env P :=
  se_forL h Iv h0 (fun i d env' hi iv => by
    rw [List.getElem?_map] at hi
    cases q : xs[i]? with
    | none => rw [q] at hi; cases hi
    | some x =>
      rw [q] at hi
      have e : enc x = d := Option.some.inj hi
      subst e
      exact hs i x env' q iv) fun env' iv => hd env' (by rwa [List.length_map] at iv)
theorem se_forTM {β : Type} (enc : β → PyData) {xs : List β} (h : EvR tl env (D (.tuple (xs.map enc)))) (Iv : Nat → List Sl → Prop) (h0 : Iv 0 env)
    (hs : ∀ i x env', xs[i]? = some x → Iv i env' → SE F0 H0 t (env'.set j (.has (D (enc x)))) { P with nx := Iv (i + 1), ct := Iv (i + 1), bk := P.nx })
    (hd : ∀ env', Iv xs.length env' → P.nx env') : SE F0 H0 (tFor (iTup K tl) (gName j) t) env P :=
  se_forT h Iv h0 (fun i d env' hi iv => by
    rw [List.getElem?_map] at hi
    cases q : xs[i]? with
    | none => rw [q] at hi; cases hi
    | some x =>
      rw [q] at hi
      have e : enc x = d := Option.some.inj hi
      subst e
      exact hs i x env' q iv) fun env' iv => hd env' (by rwa [List.length_map] at iv)
theorem take_succ' {α : Type} {l : List α} {i : Nat} {x : α} (h : l[i]? = some x) : l.take (i + 1) = l.take i ++ [x] := by
  obtain ⟨hl, e⟩ := List.getElem?_eq_some_iff.mp h
  rw [List.take_succ_eq_append_getElem hl, e]
/-! shapes -/
theorem ns_lay : ∀ l : List Nat, PyData.canLayAll0 (l.map dN) = true
  | [] => by simp [PyData.canLayAll0]
  | x :: l => by
    have h := ns_lay l
    simp [PyData.canLayAll0, PyData.canLay0, h]
theorem ns_depth : ∀ l : List Nat, PyData.depthAll (l.map dN) = 0
  | [] => by simp [PyData.depthAll]
  | x :: l => by
    have h := ns_depth l
    simp [PyData.depthAll, PyData.depth, h]
theorem shaped_ns (l : List Nat) : SeqAt.shaped (dNs l) = true := by
  show ((PyData.list (l.map dN)).canLay0 && decide ((PyData.list (l.map dN)).depth ≤ 64)) = true
  rw [Bool.and_eq_true]
  exact ⟨by simp only [PyData.canLay0]; exact ns_lay l, decide_eq_true (by simp only [PyData.depth]; rw [ns_depth]; omega)⟩
theorem rs_lay : ∀ l : List (List Nat), PyData.canLayAll0 (l.map tNs) = true
  | [] => by simp [PyData.canLayAll0]
  | x :: l => by
    have h := rs_lay l
    have h2 := ns_lay x
    simp only [List.map_cons, PyData.canLayAll0, PyData.canLay0, h, h2, Bool.and_self]
theorem rs_depth : ∀ l : List (List Nat), PyData.depthAll (l.map tNs) ≤ 1
  | [] => by simp [PyData.depthAll]
  | x :: l => by
    have h := rs_depth l
    have h2 := ns_depth x
    simp only [List.map_cons, PyData.depthAll, PyData.depth, h2]
    omega
theorem shaped_rs (l : List (List Nat)) : SeqAt.shaped (dRs l) = true := by
  show ((PyData.list (l.map tNs)).canLay0 && decide ((PyData.list (l.map tNs)).depth ≤ 64)) = true
  rw [Bool.and_eq_true]
  have := rs_depth l
  exact ⟨by simp only [PyData.canLay0]; exact rs_lay l, decide_eq_true (by simp only [PyData.depth]; omega)⟩
theorem hs_lay : ∀ l : List (List (List Nat)), PyData.canLayAll0 (l.map dRs) = true
  | [] => by simp [PyData.canLayAll0]
  | x :: l => by
    have h := hs_lay l
    have h2 := rs_lay x
    simp only [List.map_cons, PyData.canLayAll0, PyData.canLay0, h, h2, Bool.and_self]
theorem hs_depth : ∀ l : List (List (List Nat)), PyData.depthAll (l.map dRs) ≤ 2
  | [] => by simp [PyData.depthAll]
  | x :: l => by
    have h := hs_depth l
    have h2 := rs_depth x
    simp only [List.map_cons, PyData.depthAll, PyData.depth]
    omega
theorem shaped_hs (l : List (List (List Nat))) : SeqAt.shaped (.list (l.map dRs)) = true := by
  show ((PyData.list (l.map dRs)).canLay0 && decide ((PyData.list (l.map dRs)).depth ≤ 64)) = true
  rw [Bool.and_eq_true]
  have := hs_depth l
  exact ⟨by simp only [PyData.canLay0]; exact hs_lay l, decide_eq_true (by simp only [PyData.depth]; omega)⟩
theorem eqv_ns : ∀ a b : List Nat, PyData.eqvAll (a.map dN) (b.map dN) = decide (a = b)
  | [], [] => by simp [PyData.eqvAll]
  | [], _ :: _ => by simp [PyData.eqvAll]
  | _ :: _, [] => by simp [PyData.eqvAll]
  | x :: a, y :: b => by
    simp only [List.map_cons, PyData.eqvAll, PyData.eqv, eqv_ns a b, nbeq]
    rw [Bool.eq_iff_iff]
    simp
theorem eqv_rs : ∀ a b : List (List Nat), PyData.eqvAll (a.map tNs) (b.map tNs) = decide (a = b)
  | [], [] => by simp [PyData.eqvAll]
  | [], _ :: _ => by simp [PyData.eqvAll]
  | _ :: _, [] => by simp [PyData.eqvAll]
  | x :: a, y :: b => by
    simp only [List.map_cons, PyData.eqvAll, PyData.eqv, eqv_ns, eqv_rs a b]
    rw [Bool.eq_iff_iff]
    simp
theorem eqv_dRs (a b : List (List Nat)) : PyData.eqv (dRs a) (dRs b) = decide (a = b) := by
  simp only [PyData.eqv]
  exact eqv_rs a b
theorem any_hs (h : List (List (List Nat))) (r : List (List Nat)) : ((h.map dRs).any fun z => PyData.eqv z (dRs r)) = decide (r ∈ h) := by
  rw [List.any_map, Bool.eq_iff_iff, List.any_eq_true, decide_eq_true_eq]
  constructor
  · rintro ⟨x, hx, e⟩
    have e' : PyData.eqv (dRs x) (dRs r) = true := e
    rw [eqv_dRs, decide_eq_true_eq] at e'
    rw [← e']; exact hx
  · intro hx
    refine ⟨r, hx, ?_⟩
    show PyData.eqv (dRs r) (dRs r) = true
    rw [eqv_dRs, decide_eq_true_eq]
theorem evr_inH {h : List (List (List Nat))} {r : List (List Nat)} (ha : EvR ta env (D (dRs r))) (hb : EvR tb env (D (.list (h.map dRs)))) : EvR (tOp (rInD K) ta tb) env (D (.bool (decide (r ∈ h)))) := evr_is (evr_inD ha hb (shaped_rs r) (shaped_hs h)) (by rw [any_hs])
theorem evr_notInH {h : List (List (List Nat))} {r : List (List Nat)} (ha : EvR ta env (D (dRs r))) (hb : EvR tb env (D (.list (h.map dRs)))) : EvR (tOp (rNotInD K) ta tb) env (D (.bool (!decide (r ∈ h)))) := evr_is (evr_notInD ha hb (shaped_rs r) (shaped_hs h)) (by rw [any_hs])
theorem evt_neNil {l : List Nat} (ha : EvR ta env (D (dNs l))) : EvT (tTest (tOp (rNeD K) ta (tLst tNil))) env (!decide (l = [])) :=
  evt_is (evt_of (evr_neD (e' := dNs []) ha (EvN.r evn_nil) (shaped_ns l) (shaped_ns []))) (by
    have := eqv_ns l []
    show (!PyData.eqv (dNs l) (dNs [])) = _
    simp only [PyData.eqv]
    rw [this])
theorem evr_indexN {st : List Nat} {b : Nat} (ha : EvR ta env (D (dNs st))) (hb : EvR tb env (D (dN b))) (hm : b ∈ st) : EvR (tBM K "list" (rIndex K) ta (tCons tb tNil)) env (D (dN (st.idxOf b))) := by
  have e : dNs st = .list ((st.map fun n : Nat => (n : Int)).map PyData.int) := by rw [List.map_map]; rfl
  rw [e] at ha
  refine evr_index (k := (b : Int)) (j := st.idxOf b) ha hb ?_ fun m hm' => ?_
  · rw [List.getElem?_map, List.getElem?_eq_getElem (List.idxOf_lt_length_of_mem hm)]
    simp
  · rw [List.getElem?_map]
    have hl : m < st.length := Nat.lt_trans hm' (List.idxOf_lt_length_of_mem hm)
    rw [List.getElem?_eq_getElem hl]
    intro q
    have q' : ((st[m] : Nat) : Int) = (b : Int) := Option.some.inj q
    have := List.not_of_lt_findIdx (p := fun x => x == b) (xs := st) hm'
    simp at this
    omega
theorem evr_ixTE {ι : Type} {c : ι → Prop} {f : ι → List PyData} {a : Int} {d : PyData} (ha : EvR ta env (ExP c fun z => D (.tuple (f z)))) (hb : EvR tb env (D (.int a))) (hi : ∀ z, c z → atI (f z) a = some d) : EvR (tOp (rIxT K) ta tb) env (D d) := fun H0 F H σ o e Q q =>
  ev2 ha hb o e fun x y F' H' gr ⟨z, cz, hx⟩ hy => by
    cases hx with
    | tup h1 h2 =>
      obtain ⟨v, a', b'⟩ := Fz.at_map h2 (hi z cz)
      exact ⟨_, _, _, v, rfl, dn_int hy, SqT.of (gr.s _ _ h1), a', q v F' H' gr b'⟩
theorem evn_repN {x : Nat} (ha : EvR ta env (D (dN x))) (hb : EvR tb env (D (dN n))) (hl : n ≤ 100000) : EvN (tOp rRep (tLst (tCons ta tNil)) tb) env ((List.replicate n x).map dN) := by
  rw [List.map_replicate]
  exact evn_rep (EvN.r (evn_one ha)) hb hl
end
end Bm

/-! text BmMir -/
set_option Elab.async false
set_option maxRecDepth 100000
/-! the law's functions over plain lists -/
namespace Bm
/-- same item at two places -/
def eqo {α : Type} [BEq α] (l : List α) (i j : Nat) : Bool := match l[i]?, l[j]? with
  | some a, some b => a == b
  | none, none => true
  | _, _ => false
theorem eqo_at {α : Type} [BEq α] {l : List α} {i j : Nat} {a b : α} (h1 : l[i]? = some a) (h2 : l[j]? = some b) : eqo l i j = (a == b) := by
  unfold eqo
  rw [h1, h2]
/-! groupings by labels -/
def ptAt (e : Nat → Nat → Bool) (n k : Nat) : List Nat := (List.range n).filter fun x => e x k
def ptIs (e : Nat → Nat → Bool) (n k : Nat) : Bool := (ptAt e n k).headD 0 == k
def partsE (e : Nat → Nat → Bool) (n : Nat) : List (List Nat) := ((List.range n).filter (ptIs e n)).map (ptAt e n)
def parts (l : List Nat) : List (List Nat) := partsE (eqo l) l.length
/-! groups -/
def relabel (l : List Nat) (a b : Nat) : List Nat := l.map fun x => if x == max a b then min a b else x
def gstep (e : Nat → Nat → Bool) (l : List Nat) (q : Nat × Nat) : List Nat :=
  if e q.1 q.2 && l.getD q.1 0 != l.getD q.2 0 then relabel l (l.getD q.1 0) (l.getD q.2 0) else l
def lab (e : Nat → Nat → Bool) (n : Nat) (pairs : List (Nat × Nat)) : List Nat := pairs.foldl (gstep e) (List.range n)
def groups (ks : List Int) (pairs : List (Nat × Nat)) : List (List Nat) := parts (lab (eqo ks) ks.length pairs)
theorem gstep_len {e : Nat → Nat → Bool} {l : List Nat} {q : Nat × Nat} : (gstep e l q).length = l.length := by
  unfold gstep
  split
  · unfold relabel; rw [List.length_map]
  · rfl
theorem foldl_gstep_len {e : Nat → Nat → Bool} : ∀ (ps : List (Nat × Nat)) (l : List Nat), (ps.foldl (gstep e) l).length = l.length
  | [], _ => rfl
  | q :: ps, l => by rw [List.foldl_cons, foldl_gstep_len ps, gstep_len]
theorem lab_len {e : Nat → Nat → Bool} {n : Nat} {ps : List (Nat × Nat)} : (lab e n ps).length = n := by
  unfold lab
  rw [foldl_gstep_len, List.length_range]
theorem ptAt_mem {e : Nat → Nat → Bool} {n k x : Nat} (h : x ∈ ptAt e n k) : x < n ∧ e x k = true := by
  unfold ptAt at h
  rw [List.mem_filter, List.mem_range] at h
  exact h
theorem eqo_refl {α : Type} [BEq α] [LawfulBEq α] (l : List α) (i : Nat) : eqo l i i = true := by
  unfold eqo
  cases l[i]? with
  | none => rfl
  | some a => simp
theorem ptAt_ne {e : Nat → Nat → Bool} {n k : Nat} (hk : k < n) (he : e k k = true) : ptAt e n k ≠ [] := fun h => by
  have : k ∈ ptAt e n k := by
    unfold ptAt
    rw [List.mem_filter, List.mem_range]
    exact ⟨hk, he⟩
  rw [h] at this
  cases this
/-! orders -/
def insAt (x : Nat) (row : List Nat) (k : Nat) : List Nat := row.take k ++ [x] ++ row.drop k
def ins (x : Nat) (row : List Nat) : List (List Nat) := (List.range (row.length + 1)).map (insAt x row)
def orders (items : List Nat) : List (List Nat) := items.foldl (fun rows x => rows.flatMap (ins x)) [[]]
def OrdOk (items : List Nat) : Prop := items.length ≤ 100 ∧ ∀ i, i ≤ items.length → (orders (items.take i)).length ≤ 1000 ∧ ∀ r ∈ orders (items.take i), r.length ≤ 100
theorem orders_snoc (items : List Nat) (x : Nat) : orders (items ++ [x]) = (orders items).flatMap (ins x) := by
  unfold orders
  rw [List.foldl_append]
  rfl
/-! the walk: what stands, the pairs that meet -/
def wstep (st : List Nat × List (Nat × Nat)) (b : Nat) : List Nat × List (Nat × Nat) :=
  (st.1.take (st.1.idxOf b) ++ st.1.drop (st.1.idxOf b + 1), st.2 ++ [(st.1.getD (st.1.idxOf b - 1) 0, st.1.getD (st.1.idxOf b + 1) 0)])
def walkSt (n : Nat) (run : List Nat) : List Nat × List (Nat × Nat) := run.foldl wstep (List.range n, (List.range (n - 1)).map fun k => (k, k + 1))
def walkPairs (n : Nat) (run : List Nat) : List (Nat × Nat) := (walkSt n run).2
def RunOk (n : Nat) (run : List Nat) : Prop := run.Nodup ∧ ∀ b ∈ run, 1 ≤ b ∧ b + 2 ≤ n
structure WOk (n : Nat) (st : List Nat) (rest : List Nat) : Prop where
  first : st[0]? = some 0
  last : st[st.length - 1]? = some (n - 1)
  nd : st.Nodup
  lt : ∀ x ∈ st, x < n
  has : ∀ b ∈ rest, b ∈ st
theorem WOk.start {n : Nat} {run : List Nat} (hn : 2 ≤ n) (h : RunOk n run) : WOk n (List.range n) run where
  first := by rw [List.getElem?_range (by omega)]
  last := by rw [List.length_range, List.getElem?_range (by omega)]
  nd := List.nodup_range
  lt := fun x hx => List.mem_range.mp hx
  has := fun b hb => List.mem_range.mpr (by have := (h.2 b hb).2; omega)
theorem WOk.at_ {n b : Nat} {st rest : List Nat} (w : WOk n st (b :: rest)) (h1 : 1 ≤ b) (h2 : b + 2 ≤ n) : 0 < st.idxOf b ∧ st.idxOf b + 1 < st.length := by
  have hm := w.has b List.mem_cons_self
  have hl := List.idxOf_lt_length_of_mem hm
  have hv : st[st.idxOf b]? = some b := by rw [List.getElem?_eq_getElem hl]; simp
  constructor
  · apply Nat.pos_of_ne_zero
    intro z
    rw [z, w.first] at hv
    have : (0 : Nat) = b := Option.some.inj hv
    omega
  · apply Nat.lt_of_le_of_ne (by omega)
    intro z
    have : st.idxOf b = st.length - 1 := by omega
    rw [this, w.last] at hv
    have : n - 1 = b := Option.some.inj hv
    omega
theorem cut_eq (st : List Nat) (i : Nat) : st.take i ++ st.drop (i + 1) = st.eraseIdx i := by
  rw [List.eraseIdx_eq_take_drop_succ]
theorem WOk.next {n b : Nat} {st rest : List Nat} (w : WOk n st (b :: rest)) (h1 : 1 ≤ b) (h2 : b + 2 ≤ n) (hb : b ∉ rest) : WOk n (st.take (st.idxOf b) ++ st.drop (st.idxOf b + 1)) rest := by
  obtain ⟨a1, a2⟩ := w.at_ h1 h2
  rw [cut_eq]
  have hlen : (st.eraseIdx (st.idxOf b)).length = st.length - 1 := by rw [List.length_eraseIdx, if_pos (by omega)]
  refine ⟨?_, ?_, ?_, ?_, ?_⟩
  · rw [List.getElem?_eraseIdx, if_pos a1]; exact w.first
  · rw [List.getElem?_eraseIdx, hlen, if_neg (by omega), show st.length - 1 - 1 + 1 = st.length - 1 by omega]; exact w.last
  · exact w.nd.sublist (List.eraseIdx_sublist ..)
  · intro x hx
    exact w.lt x ((List.eraseIdx_sublist ..).subset hx)
  · intro c hc
    have hm := w.has c (List.mem_cons_of_mem _ hc)
    rw [List.mem_eraseIdx_iff_getElem?]
    refine ⟨st.idxOf c, fun z => ?_, ?_⟩
    · have e1 : st[st.idxOf c]? = some c := by rw [List.getElem?_eq_getElem (List.idxOf_lt_length_of_mem hm)]; simp
      have e2 : st[st.idxOf b]? = some b := by rw [List.getElem?_eq_getElem (by omega)]; simp
      rw [z, e2] at e1
      have : b = c := Option.some.inj e1
      subst this
      exact hb hc
    · rw [List.getElem?_eq_getElem (List.idxOf_lt_length_of_mem hm)]; simp
/-! index labels of rows -/
def ixRow (ix : List Nat) (i : Nat) (row : List Nat) : List Nat := row.foldl (fun a b => a.set b i) ix
def ixGo (ix : List Nat) (i : Nat) : List (List Nat) → List Nat
  | [] => ix
  | r :: rs => ixGo (ixRow ix i r) (i + 1) rs
def ixOf (n : Nat) (rows : List (List Nat)) : List Nat := ixGo (List.replicate n 0) 0 rows
theorem ixRow_len : ∀ (row ix : List Nat) (i : Nat), (ixRow ix i row).length = ix.length
  | [], _, _ => rfl
  | b :: row, ix, i => by
    show (ixRow (ix.set b i) i row).length = _
    rw [ixRow_len row, List.length_set]
theorem ixGo_len : ∀ (rows : List (List Nat)) (ix : List Nat) (i : Nat), (ixGo ix i rows).length = ix.length
  | [], _, _ => rfl
  | r :: rows, ix, i => by
    show (ixGo (ixRow ix i r) (i + 1) rows).length = _
    rw [ixGo_len rows, ixRow_len]
theorem ixOf_len {n : Nat} {rows : List (List Nat)} : (ixOf n rows).length = n := by
  unfold ixOf
  rw [ixGo_len, List.length_replicate]
theorem ixGo_snoc : ∀ (rows : List (List Nat)) (ix : List Nat) (i : Nat) (r : List Nat), ixGo ix i (rows ++ [r]) = ixRow (ixGo ix i rows) (i + rows.length) r
  | [], _, _, _ => rfl
  | q :: rows, ix, i, r => by
    show ixGo (ixRow ix i q) (i + 1) (rows ++ [r]) = _
    rw [ixGo_snoc rows]
    show ixRow (ixGo (ixRow ix i q) (i + 1) rows) _ r = ixRow (ixGo (ixRow ix i q) (i + 1) rows) _ r
    rw [List.length_cons]
    congr 1
    omega
theorem ixRow_snoc (row ix : List Nat) (i b : Nat) : ixRow ix i (row ++ [b]) = (ixRow ix i row).set b i := by
  unfold ixRow
  rw [List.foldl_append]
  rfl
/-- rows as the law hands them in: sorted, in order, all beads once -/
structure RowsOk (n : Nat) (rows : List (List Nat)) : Prop where
  ne : ∀ r ∈ rows, r ≠ []
  srt : ∀ r ∈ rows, r.Pairwise (· ≤ ·)
  lt : ∀ r ∈ rows, ∀ x ∈ r, x < n
  heads : rows.Pairwise fun r r' => r.headD 0 < r'.headD 0
  flat : rows.flatten.Perm (List.range n)
  len : rows.length ≤ 1000
/-! gaps -/
def put (d : List (List Nat × List Nat)) (k : List Nat) (x : Nat) : List (List Nat × List Nat) :=
  if d.any (fun r => r.1 == k) = true then d.map (fun r => if (r.1 == k) = true then (r.1, r.2 ++ [x]) else r) else d ++ [(k, [x])]
def gapM (ix szs : List Nat) (m : List Nat) (pl : Nat) : List Nat := m.set (ix.getD pl 0) ((m.getD (ix.getD pl 0) 0 + 1) % szs.getD (ix.getD pl 0) 0)
def gapStep (e : Nat → Nat → Bool) (n : Nat) (ix szs : List Nat) (st : List Nat × List (List Nat × List Nat)) (pl : Nat) : List Nat × List (List Nat × List Nat) :=
  (gapM ix szs st.1 pl, if e pl ((pl + 1) % n) = true then st.2 else put st.2 (gapM ix szs st.1 pl) pl)
def gapSt (e : Nat → Nat → Bool) (n : Nat) (ix szs : List Nat) (i : Nat) : List Nat × List (List Nat × List Nat) := (List.range i).foldl (gapStep e n ix szs) (List.replicate szs.length 0, [])
def gapsOf (e : Nat → Nat → Bool) (n : Nat) (ix szs : List Nat) : List (List Nat) := (gapSt e n ix szs n).2.map (·.2)
theorem gapSt_succ (e : Nat → Nat → Bool) (n : Nat) (ix szs : List Nat) (i : Nat) : gapSt e n ix szs (i + 1) = gapStep e n ix szs (gapSt e n ix szs i) i := by
  unfold gapSt
  rw [List.range_succ, List.foldl_append]
  rfl
theorem gapSt_len (e : Nat → Nat → Bool) (n : Nat) (ix szs : List Nat) : ∀ i, (gapSt e n ix szs i).1.length = szs.length
  | 0 => by unfold gapSt; simp
  | i + 1 => by
    rw [gapSt_succ]
    show (gapM _ _ _ _).length = _
    unfold gapM
    rw [List.length_set, gapSt_len e n ix szs i]
theorem put_len (d : List (List Nat × List Nat)) (k : List Nat) (x : Nat) : (put d k x).length ≤ d.length + 1 := by
  unfold put
  split
  · rw [List.length_map]; omega
  · rw [List.length_append]; exact Nat.le_refl _
theorem gapSt_d (e : Nat → Nat → Bool) (n : Nat) (ix szs : List Nat) : ∀ i, (gapSt e n ix szs i).2.length ≤ i
  | 0 => by unfold gapSt; simp
  | i + 1 => by
    rw [gapSt_succ]
    have ih := gapSt_d e n ix szs i
    show (if _ then _ else put _ _ _).length ≤ _
    split
    · omega
    · have := put_len (gapSt e n ix szs i).2 (gapM ix szs (gapSt e n ix szs i).1 i) i
      omega
theorem put_b {d : List (List Nat × List Nat)} {k : List Nat} {x N : Nat} (h : ∀ r ∈ d, r.2.length ≤ N) : ∀ r ∈ put d k x, r.2.length ≤ N + 1 := fun r hr => by
  unfold put at hr
  split at hr
  · obtain ⟨q, hq, rfl⟩ := List.mem_map.mp hr
    have := h q hq
    split
    · simp
      omega
    · omega
  · rcases List.mem_append.mp hr with z | z
    · have := h r z
      omega
    · rw [List.mem_singleton.mp z]
      simp
theorem gapSt_b (e : Nat → Nat → Bool) (n : Nat) (ix szs : List Nat) : ∀ i, ∀ r ∈ (gapSt e n ix szs i).2, r.2.length ≤ i
  | 0 => by unfold gapSt; simp
  | i + 1 => by
    rw [gapSt_succ]
    have ih := gapSt_b e n ix szs i
    unfold gapStep
    dsimp only
    split
    · intro r hr
      have := ih r hr
      omega
    · exact put_b ih
theorem put_in {d : List (List Nat × List Nat)} {k : List Nat} {x N : Nat} (h : ∀ r ∈ d, ∀ y ∈ r.2, y < N) (hx : x < N) : ∀ r ∈ put d k x, ∀ y ∈ r.2, y < N := fun r hr => by
  unfold put at hr
  split at hr
  · obtain ⟨q, hq, rfl⟩ := List.mem_map.mp hr
    have := h q hq
    split
    · intro y hy
      rcases List.mem_append.mp hy with z | z
      · exact this y z
      · rw [List.mem_singleton.mp z]; exact hx
    · exact this
  · rcases List.mem_append.mp hr with z | z
    · exact h r z
    · rw [List.mem_singleton.mp z]
      intro y hy
      rw [List.mem_singleton.mp hy]; exact hx
theorem gapSt_in (e : Nat → Nat → Bool) (n : Nat) (ix szs : List Nat) : ∀ i, ∀ r ∈ (gapSt e n ix szs i).2, ∀ y ∈ r.2, y < i
  | 0 => by unfold gapSt; simp
  | i + 1 => by
    rw [gapSt_succ]
    have ih : ∀ r ∈ (gapSt e n ix szs i).2, ∀ y ∈ r.2, y < i + 1 := fun r hr y hy => Nat.lt_succ_of_lt (gapSt_in e n ix szs i r hr y hy)
    unfold gapStep
    dsimp only
    split
    · exact ih
    · exact put_in ih (Nat.lt_succ_self i)
def kindsOf (e : Nat → Nat → Bool) (g : List Nat) : Nat := (g.foldl (fun s x => if s.any (fun y => e y x) = true then s else s ++ [x]) []).length
def goodB (e : Nat → Nat → Bool) (n : Nat) (ix szs : List Nat) : Bool := (gapsOf e n ix szs).all fun g => ! (Nat.blt 2 g.length && kindsOf e g == 2)
end Bm

/-! text BmFn -/
set_option Elab.async false
set_option linter.all false
set_option maxRecDepth 100000
set_option maxHeartbeats 4000000
namespace Fz
open PySem L2
/-! ### calls that give a new list -/
def Fn (S : List Pr → List PyData → Prop) : Sp := fun vs H Q _ => ∃ Rs ds F, S Rs ds ∧ Ex F H ∧ AllP vs Rs F ∧ ∀ a xs F' H', Gr F H F' H' → H a = none → F' a = none → H' a = some (.lst xs) → DnA F' xs ds → Q (.ref a) H'
theorem Fn.len {S : List Pr → List PyData → Prop} {n : Nat} (h : ∀ Rs R, S Rs R → Rs.length = n) {vs : List V} {H : Hp} {Q : VK} {E : XK} (q : Fn S vs H Q E) : vs.length = n := by
  obtain ⟨Rs, R, F, s, _, a, _⟩ := q
  rw [a.len, h Rs R s]
theorem evn_call {S : List Pr → List PyData → Prop} {env : List Sl} {Rs : List Pr} {ds : List PyData} {tr : TA} {E : XK} (h : EvAs tr env Rs) (hs : S Rs ds) : EvN (tCall (Fn S) [] E tr) env ds := fun H0 F H σ o e Q q =>
  h H0 F H σ o e _ fun vs F1 H1 g1 r1 => ⟨Rs, ds, F1, hs, g1.s, by rw [List.append_nil]; exact r1, fun a xs F' H' g hn => q a xs F' H' (g1.trans g) (g1.h.free hn)⟩
/-- a call with one argument of which something is known -/
theorem evr_callE {S : List Pr → Pr → Prop} {env : List Sl} {ι : Type} {c : ι → Prop} {Rz : ι → Pr} {R : Pr} {te : TE} {E : XK} (h : EvR te env (ExP c Rz)) (hs : ∀ z, c z → S [Rz z] R) : EvR (tCall (Fs S) [] E (tCons te tNil)) env R := fun H0 F H σ o e Q q =>
  h H0 F H σ o e _ fun v F1 H1 g1 ⟨z, cz, r1⟩ => ⟨[Rz z], R, F1, hs z cz, g1.s, ⟨r1, True.intro⟩, fun v F' H' g r => q v F' H' (g1.trans g) r⟩
theorem evr_callX {S : List Pr → Pr → Prop} {env : List Sl} {ι : Type} {c : ι → Prop} {Rz Ry : ι → Pr} {te : TE} {E : XK} (h : EvR te env (ExP c Rz)) (hs : ∀ z, c z → S [Rz z] (Ry z)) : EvR (tCall (Fs S) [] E (tCons te tNil)) env (ExP c Ry) := fun H0 F H σ o e Q q =>
  h H0 F H σ o e _ fun v F1 H1 g1 ⟨z, cz, r1⟩ => ⟨[Rz z], Ry z, F1, hs z cz, g1.s, ⟨r1, True.intro⟩, fun v F' H' g r => q v F' H' (g1.trans g) ⟨z, cz, r⟩⟩
theorem se_bodyN {F H : Hp} {Rs : List Pr} {ds : List PyData} {vs : List V} {N : List Str} {te : TE} {Q : VK} {n : Nat} (hn : N.length = n) (e : Ex F H) (ha : AllP vs Rs F) (hq : ∀ a xs F' H', Gr F H F' H' → H a = none → F' a = none → H' a = some (.lst xs) → DnA F' xs ds → Q (.ref a) H')
    (h : EvN te (Rs.map .has ++ List.replicate (n - Rs.length) .no) ds) : tRet te { nx := fun _ H' => Q .non H', rt := Q } (L2.start N vs) H := by
  exact h H F H _ (ok_start0 hn e ha) (Ex.refl H) Q fun a xs F2 H2 g2 hn hf hl hd => hq a xs F2 H2 g2 hn hf hl hd
end Fz
namespace Bm
open PySem PySem.Spec PyProof.Rows L2 Fz
section
variable {env : List Sl} {ta tb te ti : TE} {K : PySem.W.Frag} {n i one : Nat} {ks : List Int} {al : List Nat}
theorem get_set_ne {α : Type} {l : List α} {i j : Nat} {x : α} {o : Option α} (h : l[i]? = o) (hn : i ≠ j) : (l.set j x)[i]? = o := by rw [List.getElem?_set_ne (Ne.symm hn)]; exact h
theorem getN {l : List Nat} {i : Nat} (h : i < l.length) : l[i]? = some (l.getD i 0) := by rw [getD_lt h]; exact List.getElem?_eq_getElem h
theorem getI {l : List Int} {i : Nat} (h : i < l.length) : l[i]? = some (l.getD i 0) := by rw [getD_lt h]; exact List.getElem?_eq_getElem h
/-- [x for x in range(n) if ks[x] == ks[one]] -/
theorem ev_alike {a b c j : Nat} (ha : env[a]? = some (.has (D (dN n)))) (hb : env[b]? = some (.has (D (dIs ks)))) (hc : env[c]? = some (.has (D (dN one)))) (h1 : b ≠ j) (h2 : c ≠ j) (hj : j < env.length) (hn : ks.length = n) (ho : one < n) (hz : n ≤ 1000) :
    EvN (tLc (iRng1 (tCons (tVar a) tNil)) (gName j) (tTest (tOp rEq (tOp (rIxL K) (tVar b) (tVar j)) (tOp (rIxL K) (tVar b) (tVar c)))) (tVar j) [j]) env ((ptAt (eqo ks) n one).map dN) :=
  evn_lcR1 (fun x => eqo ks x one) dN (evr_var ha) (by omega) (fun x hx =>
    evt_is (evt_eqI (evr_ixI (evr_var (get_set_ne hb h1)) (evr_var (by rw [List.getElem?_set_self hj])) (getI (by omega))) (evr_ixI (evr_var (get_set_ne hb h1)) (evr_var (get_set_ne hc h2)) (getI (by omega)))) (by rw [eqo_at (getI (by omega)) (getI (by omega))]))
    fun x hx _ => evr_var (by rw [List.getElem?_set_self hj])
/-- al[i % len(al)] -/
theorem ev_pick (ha : EvR te env (D (dNs al))) (hi : EvR ti env (D (dN i))) (hn : al ≠ []) : EvR (tOp (rIxL K) te (tOp xMod ti (tCB (Fz.rLenS K) (tCons te tNil)))) env (D (dN (al.getD (i % al.length) 0))) := by
  have hl : 0 < al.length := List.length_pos_iff.mpr hn
  exact evr_ixN ha (evr_modN hi (evr_lenM ha) hl) (getN (Nat.mod_lt _ hl))
theorem pick_mem (hn : al ≠ []) : al.getD (i % al.length) 0 ∈ al := by
  have hl : 0 < al.length := List.length_pos_iff.mpr hn
  have h := Nat.mod_lt i hl
  rw [getD_lt h]
  exact List.getElem_mem h
end
end Bm

/-! text BmBad -/
set_option Elab.async false
set_option linter.all false
set_option maxRecDepth 100000
set_option maxHeartbeats 4000000
namespace PySem
namespace BadX
open PySem.W PySem.Calls PyProof.Rows PySem.HandSPX
section
variable {prog : Program} {w : World} {A : Around} {E : Value → Shared → Prop} {h : Heap} {g : Array GenState} {d : Drawn} {t : Nat} {os : OsState}
variable {nm q : Str} {C N : Addr} {bs bm : List Value} {hdct : Bool} {sn : List Str} {sub : List Value} {ab : Bool} {col : Option Bool} {dd : Option Addr} {k0 k1 k2 k3 k5 : Option Value}
theorem call_mw {u e t0 : Addr} {rest : List Value} {Q : Value → Shared → Prop}
    (hC : h.get? C = some (excClassObj nm q C N bs bm hdct sn sub ab col dd k0 k1 k2 k3 k5 "ValueError.__new__")) (he : h.get? e = some (excO C t0)) (hu : h.get? u = some (kxs_mw "ValueError.__init__" e)) (hrest : rest.length ≤ sizeLine)
    (hq : ∀ h' t1, (∀ b o, b ≠ e → h.get? b = some o → h'.get? b = some o) → h'.get? e = some (excO C t1) → Q .none ⟨h', g, d, t, os⟩) :
    wpAny (model prog w) A (call (.ref u) rest) Q E ⟨h, g, d, t, os⟩ := by
  refine wpAny_call (codeAny_of_tree ?_)
  show wpAny _ A.in1 (callAny (.ref u) ⟨rest, []⟩) _ _ _
  simp only [callAny]
  refine wpAny_bind (wpAny_load hu ?_)
  simp only [kxs_mw, show (Value.type "method-wrapper" == Value.type "method" || Value.type "method-wrapper" == Value.type "builtin_function_or_method" || Value.type "method-wrapper" == Value.type "method-wrapper") = true by decide, if_true]
  refine W.KFB.if_so (by decide) ?_
  refine wpAny_bind (check_bound_init F.excBase_ValueError.toExcCallFacts hC he rfl ?_)
  refine wpAny_bind (wpAny_pure (wpAny_pure ?_))
  refine ⟨Code.quiet_builtin _ (by decide +kernel), codeAny_builtin F.excBase_ValueError.initEntry ?_⟩
  rw [Around.under_plainId F.excBase_ValueError.init.plain _]
  wp_walk
  refine hq _ h.objs.size (fun b o hb ho => ?_) ?_
  · rw [Heap.get?_update_other _ _ (Ne.symm hb)]
    exact Heap.get?_push_of_some _ ho
  · rw [Heap.get?_update_self _ (Heap.get?_push_of_some _ he) rfl]
    rfl
end
theorem callWith_mw1 {M : Model} {A : Around} {E : Value → Shared → Prop} {s : Shared} {i : String} {u x : Addr} {pos : Pos} {env : Env} {e : Expr} {rest : List Expr} {Q : Value → Shared → Prop}
    (h : wpAny M A (spliced (backTo pos (starEach (e :: rest) env))) (fun vs s₁ => KxsAt i u x s₁.heap ∧ wpAny M A (call (.ref u) vs) Q E s₁) E s)
    (he : starEach (e :: rest) env = (false, eval e env) :: starEach rest env := by rfl) (hplain : (backTo pos (starEach rest env)).any (·.1) = false := by rfl) :
    wpAny M A (callWith pos (.ref u) [] (backTo pos (starEach (e :: rest) env)) []) Q E s := by
  rw [he] at h ⊢
  refine kxs_callWith (i := i) (x := x) (by show (false || (backTo pos (starEach rest env)).any (·.1)) = false; rw [hplain]; rfl) ?_
  exact evalArgs_plain h
abbrev bSt : Stmt := L2.inClass (Bm.topS 9) 0
/-- what the written part says of BadBook, at C, and of its __init__, at fI -/
structure BadTxt (P : Program) (K : Frag) (mg : Str → Option Value) (C fI : Addr) : Prop where
  gC : mg "BadBook" = some (.ref C)
  gS : mg "super" = none
  cls : ∃ nm q N bs bm sn sub ab col dd k0 k1 k2 k3 k5, K.lookup C = some (excClassObj nm q C N bs bm true sn sub ab col dd k0 k1 k2 k3 k5 "ValueError.__new__") ∧ refsVE bm = true
  sa : findIn K (.ref C) "__setattr__" = some (some (.builtin "object.__setattr__"))
  ga : findIn K (.ref C) "__getattribute__" = some (some (.builtin "BaseException.__getattribute__"))
  gg : findIn K (.ref C) "__getattr__" = some none
  noR : findIn K (.ref C) "rule" = some none
  noW : findIn K (.ref C) "where" = some none
  iC : findIn K (.ref C) "__init__" = some (some (.ref fI))
  tC : typeIn K (.ref fI) = some (.type "function")
  kC : keepIn K (.ref C) = true
  exC : subIn K (.ref C) (.type "BaseException") = some true
  veC : subIn K (.ref C) (.type "ValueError") = some true
  tyC : typeIn K (.ref C) = some (.type "type")
  hdC : hasDictIn K C = true
  te : exmOne K (.ref C) (.ref C) = some true
  sub : mroIn K C (.ref C) = some true
  sup : ks_superIn K C C "__init__" = some (some (.builtin "ValueError.__init__"))
  any : nsIn K cStatics "thirdparty.any" = some none
  fn : ∃ (oc : Value) (od : Option Addr) (kV doc pm : Value) (an : Option Addr) (ct : Value) (osl : Array (Option Value)) (cc cda : Addr) (ccl cl : Value) (cdd cld : Option Addr) (vs : Array Value) (ccs csl : Array (Option Value)) (file : Str) (tf : Tok),
    K.lookup fI = some ⟨oc, od, .func (ksFn "__init__" "BadBook.__init__" (L2.defArgs bSt) (L2.defBody bSt) (L2.defScope bSt) .none kV doc pm an (.ref cda) ct cc), osl⟩ ∧ codeIn K (.ref cda) "BadBook.__init__" = true ∧
    K.lookup cda = some ⟨ccl, cdd, .fields vs, ccs⟩ ∧ vs[2]? = some (.str file tf) ∧ ((P.main.file : Str) == file) = true ∧ K.lookup cc = some ⟨cl, cld, .cell (some (.ref C)), csl⟩
  top : (P.main.scope.names.lookup ("super" : Str)).isSome = false
/-- what __init__ leaves of a fresh exception at x -/
structure InitEnd (h h' : Heap) (x C dx t1 : Addr) (v u : Value) : Prop where
  keep : ∀ b o, b ≠ x → h.get? b = some o → h'.get? b = some o
  obj : h'.get? x = some { cls := .ref C, dict := some dx, data := .fields #[.ref t1, .none, .none, .none, .bool false, .none] }
  dbig : h.objs.size ≤ dx
  dne : dx ≠ x
  ns : h'.Ns1 dx (fun y => if y = "where" then some u else if y = "rule" then some v else none)
section
variable {prog : Program} {w : World} {A : Around} {E : Value → Shared → Prop} {R : Result → Shared → Prop} {s : Shared} {K : Frag} {mg mb : Str → Option Value} {C fI : Addr}
theorem bad_init (T : BadTxt prog K mg C fI) {x t0 : Addr} {v u : Value} (X : K.In s.heap) (hlim : s.heap.NoLimit) (G : s.heap.Ns mainGlobals mg) (B : s.heap.Ns builtinsNs mb) (Bb : ∀ y : Str, y ≠ "__name__" → mb y = bootBuiltins y)
    (hx : s.heap.get? x = some (excO C t0)) (hnx : K.lookup x = none) (hroom : A.depth < recursionLimit)
    (hq : ∀ h' tk dx t1, InitEnd s.heap h' x C dx t1 v u → R (.ok (.ret .none)) { s with heap := h', toks := tk }) :
    codeAny (model prog w) A (.call (.ref fI) ⟨[.ref x, v, u], []⟩) R s := by
  obtain ⟨oc, od, kV, doc, pm, an, ct, osl, cc, cda, ccl, cl, cdd, cld, vs, ccs, csl, file, tf, hf, hcd, hcode, hvs, hfile, hcell⟩ := T.fn
  obtain ⟨nm, q, N, bs, bm, sn, sub, ab, col, dd, k0, k1, k2, k3, k5, hC, hbm⟩ := T.cls
  have hcl : clsIn K C = some { name := nm, bases := bs, mro := .ref C :: bm, ns := N, qualname := q, hasDict := true, slotNames := sn, subclasses := sub, abstract := ab, collection := col, hasDel := false } := by unfold clsIn; rw [hC] <;> rfl
  refine ks_codeAny_call_defAt (fd := ksFn "__init__" "BadBook.__init__" (L2.defArgs bSt) (L2.defBody bSt) (L2.defScope bSt) .none kV doc pm an (.ref cda) ct cc) (body := L2.defBody bSt) (binds := [("self", .ref x), ("rule", v), ("where", u)])
    hroom (X _ _ hf) rfl hlim (codeRec_of X hcd) rfl (BindsTo.of_eq (by first | rfl | with_unfolding_all rfl)) (by decide +kernel : ∀ x ∈ (L2.defScope bSt).names, x.2 ≠ .cell)
    (fun y hy => ?_) (fun h₁ hns hk₁ => ?_) rfl rfl rfl
  · have key : ∀ n ∈ [("self" : Str), "rule", "where"], (L2.defScope bSt).names.lookup n = some .local := by decide +kernel
    refine key y.1 ?_
    rcases List.mem_cons.mp hy with rfl | hy
    · exact List.mem_cons_self
    rcases List.mem_cons.mp hy with rfl | hy
    · exact List.mem_cons_of_mem _ List.mem_cons_self
    rcases List.mem_cons.mp hy with rfl | hy
    · exact List.mem_cons_of_mem _ (List.mem_cons_of_mem _ List.mem_cons_self)
    · cases hy
  obtain ⟨h, g, d, tk, os⟩ := s
  have hx₁ := hk₁ _ _ hx
  have X₁ : K.In h₁ := X.keeps hk₁
  have lv : ∀ (h' : Heap), (∀ b o, h₁.get? b = some o → h'.get? b = some o) → h'.Ns h.objs.size (fun x_1 => List.lookup x_1 [(("self" : Str), Value.ref x), ("rule", v), ("where", u)].reverse) := fun h' k => hns.keeps k
  show wpAt (model prog w) (A.deeper (ksEnv "BadBook.__init__" (L2.defScope bSt) h.objs.size fI (.ref cda) cc)) (.func (L2.defBody bSt) (ksEnv "BadBook.__init__" (L2.defScope bSt) h.objs.size fI (.ref cda) cc)) (execs (L2.defBody bSt) (ksEnv "BadBook.__init__" (L2.defScope bSt) h.objs.size fI (.ref cda) cc)) _ _ _
  refine ks_wpAt_execs_cons (ks_wpAt_Expr_any (ks_wpAt_MethodCall ?_))
  obtain ⟨oD, hD1, hD2⟩ : ∃ oD, h₁.get? C = some oD ∧ oD.data = .cls { name := nm, bases := bs, mro := .ref C :: bm, ns := N, qualname := q, hasDict := true, slotNames := sn, subclasses := sub, abstract := ab, collection := col, hasDel := false } := ⟨_, X₁ _ _ hC, rfl⟩
  refine ks_wpAt_super_base (env := ksEnv "BadBook.__init__" (L2.defScope bSt) h.objs.size fI (.ref cda) cc) (by rfl) (by rfl) (by decide +kernel) rfl (X₁ _ _ hf) rfl (by rfl) rfl (X₁ _ _ hcode) rfl hvs hfile T.top ?_
  refine ks_loadName_global (by rfl) (by rfl) (loadGlobal_builtin (env := ksEnv "BadBook.__init__" (L2.defScope bSt) h.objs.size fI (.ref cda) cc) (G.keeps hk₁) T.gS (B.keeps hk₁) ((Bb _ (by decide +kernel)).trans (by rfl)) ⟨rfl, ?_⟩)
  refine wpAny_loadName_free (by rfl) (by rfl) rfl ⟨_, X₁ _ _ hcell, rfl⟩ ?_
  refine wpAny_loadName_local (v := .ref x) (by rfl) (by rfl) hns (by rfl) ?_
  refine ks_wpAny_isType_cls hD1 hD2 ⟨rfl, ?_⟩
  refine ks_wpAny_call_super hD1 hD2 hx₁ rfl (fun c e => by cases e) (looks_mroIn X₁ T.sub) (fun h₂ e₂ k₂ => ?_)
  have X₂ : K.In h₂ := X₁.keeps k₂
  have hx₂ := k₂ _ _ hx₁
  have I₂ : InstAt h₂ x (excO C t0) C none := ⟨hx₂, rfl, rfl, trivial⟩
  have hsup : alongIn K "__init__" (((.ref C :: bm).dropWhile (· != .ref C)).drop 1) = some (some (.builtin "ValueError.__init__")) := by
    have z := T.sup
    unfold ks_superIn at z
    rw [hcl] at z
    exact z
  refine kxs_getMethod kxs_ValueError e₂ (looks_opaque X₂ T.any) (l₀ := .ref C :: bm) (fun A Q E s k q => wpAny_bind ((looks_clsIn X₂ hcl) A _ E s k (wpAny_pure q))) rfl X₂ hsup (I₂.type.andThen (looks_subIn X₂ T.veC)) (fun z => ?_) (by decide +kernel) ?_
  · subst z
    rw [X _ _ hC] at hx
    cases hx
  have k₃ : ∀ b o, h₂.get? b = some o → (h₂.push (kxs_mw "ValueError.__init__" x)).get? b = some o := fun b o e => Heap.get?_push_of_some _ e
  have hu₃ : (h₂.push (kxs_mw "ValueError.__init__" x)).get? h₂.objs.size = some (kxs_mw "ValueError.__init__" x) := Heap.get?_push_at rfl rfl
  have hx₃ := k₃ _ _ hx₂
  have X₃ : K.In (h₂.push (kxs_mw "ValueError.__init__" x)) := X₂.keeps k₃
  generalize h₂.push (kxs_mw "ValueError.__init__" x) = h₃ at k₃ hu₃ hx₃ X₃
  refine callWith_mw1 (i := "ValueError.__init__") (x := x) (spliced_more (Calls.Constant_str (spliced_none ⟨hu₃, ?_⟩)))
  refine call_mw (X₃ _ _ hC) hx₃ hu₃ (by rw [sizeLine_eq]; exact (by decide : 1 ≤ 16777216)) fun h₄ t1 k₄ hx₄ => ?_
  have nx : ∀ b o, h.get? b = some o → b ≠ x → h₄.get? b = some o := fun b o e hb => k₄ b o hb (k₃ _ _ (k₂ _ _ (hk₁ _ _ e)))
  have nxL : h.objs.size ≠ x := Nat.ne_of_gt (Heap.lt_size hx)
  have X₄ : K.In h₄ := fun a o e => k₄ a o (fun z => by rw [z, hnx] at e; cases e) (X₃ a o e)
  have hns₄ : h₄.Ns h.objs.size (fun x_1 => List.lookup x_1 [(("self" : Str), Value.ref x), ("rule", v), ("where", u)].reverse) := (hns.keeps fun b o e => k₃ _ _ (k₂ _ _ e)).at fun o e => k₄ _ _ nxL e
  -- self.rule = rule
  show wpAt _ _ _ (execs _ _) _ _ _
  refine wpAt_of_wpAny (wpAny_execs_cons (plainObj_wpAny_Assign_Attribute ?_))
  refine wpAny_Name (wpAny_loadName_local (v := v) (by rfl) (by rfl) hns₄ (by rfl) ?_) (by decide)
  refine wpAny_Name (wpAny_loadName_local (v := .ref x) (by rfl) (by rfl) hns₄ (by rfl) ?_) (by decide)
  refine set_plain X₄ (ox := excO C t1) (od := none) ⟨hx₄, rfl, rfl, trivial⟩ T.sa ?_
  refine exc_osa X₄ hx₄ hcl (show refsVE (.ref C :: bm) = true from hbm) rfl T.noR (fun h₅ tk₅ dx k₅ dn dne hx₅ hn₅ => ?_)
  have old₅ : ∀ b o, h.get? b = some o → b ≠ x → h₅.get? b = some o := fun b o e hb => k₅ b o hb (nx b o e hb)
  have X₅ : K.In h₅ := fun a o e => k₅ a o (fun z => by rw [z, hnx] at e; cases e) (X₄ a o e)
  have hns₅ : h₅.Ns h.objs.size (fun x_1 => List.lookup x_1 [(("self" : Str), Value.ref x), ("rule", v), ("where", u)].reverse) := hns₄.at fun o e => k₅ _ _ nxL e
  -- self.where = where
  show wpAny _ _ (execs _ _) _ _ _
  refine wpAny_execs_cons (plainObj_wpAny_Assign_Attribute ?_)
  refine wpAny_Name (wpAny_loadName_local (v := u) (by rfl) (by rfl) hns₅ (by rfl) ?_) (by decide)
  refine wpAny_Name (wpAny_loadName_local (v := .ref x) (by rfl) (by rfl) hns₅ (by rfl) ?_) (by decide)
  obtain ⟨oD2, esD, epD, hoD, hdD, _⟩ := hn₅.count (Within.cons "rule" v Within.nil)
  refine set_plain X₅ (ox := { cls := .ref C, dict := some dx, data := .fields #[.ref t1, .none, .none, .none, .bool false, .none] }) (od := some oD2) ⟨hx₅, rfl, rfl, hoD⟩ T.sa ?_
  refine PySem.OEX.osa_old X₅ hx₅ hn₅ (Within.cons "rule" v Within.nil) (by decide) hcl (show refsVE (.ref C :: bm) = true from hbm) rfl T.noW (fun h₆ tk₆ k₆ hn₆ => ?_)
  have ndx : ∀ {b : Addr} {o : Obj}, h.get? b = some o → b ≠ dx := fun {b o} e z => by
    have h4 : h.objs.size < h₄.objs.size := hns₄.lt
    have h5 : b < h.objs.size := Heap.lt_size e
    have h6 : h₄.objs.size ≤ dx := dn
    rw [z] at h5
    exact absurd (Nat.lt_of_lt_of_le (Nat.lt_trans h5 h4) h6) (Nat.lt_irrefl _)
  show wpAny _ _ (execs _ _) _ _ _
  refine wpAny_execs_nil (hq h₆ tk₆ dx t1 ⟨fun b o hb e => k₆ b o (ndx e) (old₅ b o e hb), k₆ _ _ dne.symm hx₅, Nat.le_trans (Nat.le_of_lt hns₄.lt) dn, dne, hn₆⟩)
/-- a made BadBook -/
structure OwnMade (h h' : Heap) (e C d : Addr) (v u : Value) : Prop where
  keep : ∀ b o, h.get? b = some o → h'.get? b = some o
  new : h.objs.size ≤ e
  obj : ∃ oe vs, h'.get? e = some oe ∧ oe.cls = .ref C ∧ oe.dict = some d ∧ oe.data = .fields vs ∧ vs[1]? = some .none
  dbig : h.objs.size ≤ d
  dne : d ≠ e
  ns : h'.Ns1 d (fun y => if y = "where" then some u else if y = "rule" then some v else none)
theorem two_size (v u : Value) : [v, u].length ≤ sizeLine := by
  rw [sizeLine_eq]
  exact (by decide : 2 ≤ 16777216)
theorem bad_made (T : BadTxt prog K mg C fI) {v u : Value} (X : K.In s.heap) (hlim : s.heap.NoLimit) (G : s.heap.Ns mainGlobals mg) (B : s.heap.Ns builtinsNs mb) (Bb : ∀ y : Str, y ≠ "__name__" → mb y = bootBuiltins y) (hroom : A.depth + 1 < recursionLimit)
    (hq : ∀ h' tk e d, OwnMade s.heap h' e C d v u → R (.ok (.ret (.ref e))) { s with heap := h', toks := tk }) :
    codeAny (model prog w) A (.call (.ref C) ⟨[v, u], []⟩) R s := by
  obtain ⟨nm, q, N, bs, bm, sn, sub, ab, col, dd, k0, k1, k2, k3, k5, hC, hbm⟩ := T.cls
  obtain ⟨hp, g, dr, tk, os⟩ := s
  have k : ∀ b o, hp.get? b = some o → ((hp.push (kdv_tup [v, u])).push (excO C hp.objs.size)).get? b = some o := fun b o e => Heap.get?_push_of_some _ (Heap.get?_push_of_some _ e)
  have hget : ((hp.push (kdv_tup [v, u])).push (excO C hp.objs.size)).get? (hp.objs.size + 1) = some (excO C hp.objs.size) := by heap_get
  have hnx : K.lookup (hp.objs.size + 1) = none := by
    cases e : K.lookup (hp.objs.size + 1) with
    | none => rfl
    | some o =>
      have z : hp.get? (hp.objs.size + 1) = some o := X _ _ e
      exact absurd (Nat.lt_of_succ_lt (Heap.lt_size z)) (Nat.lt_irrefl _)
  refine call_own F.excBase_ValueError (fun X => refsVE_contains X bm hbm) (X _ _ hC) (looks_findIn X T.iC) (fun self => bind_fn X self T.tC) (two_size v u) ?_
  refine bad_init (s := ⟨(hp.push (kdv_tup [v, u])).push (excO C hp.objs.size), g, dr, tk, os⟩) T (X.keeps k) (hlim.keeps k) (G.keeps k) (B.keeps k) Bb hget hnx ?_ fun h' tk' dx t1 ⟨k', hx, dn, dne, hns⟩ => ?_
  · show A.depth + 1 < recursionLimit
    exact hroom
  · have old : ∀ b o, hp.get? b = some o → h'.get? b = some o := fun b o e => k' b o (Nat.ne_of_lt (Nat.lt_succ_of_lt (Heap.lt_size e))) (k b o e)
    have z : hp.objs.size + 1 + 1 ≤ dx := by
      first
        | (simpa only [Heap.size_push] using dn)
        | exact dn
        | (have q := dn; rw [Heap.size_push, Heap.size_push] at q; exact q)
    exact ⟨rfl, hq h' tk' (hp.objs.size + 1) dx ⟨old, Nat.le_succ _, ⟨_, _, hx, rfl, rfl, rfl, rfl⟩, Nat.le_trans (Nat.le_trans (Nat.le_succ _) (Nat.le_succ _)) z, dne, hns⟩⟩
end
end BadX
end PySem
namespace L2
open PySem PySem.Spec PyProof.Rows
abbrev badD (v u : V) : List (Str × V) := [(("where" : Str), u), (("rule" : Str), v)]
theorem relO_bad {v u : V} {v' u' : Value} (r : RelV v v') (r2 : RelV u u') (f : Str) : RelO (List.lookup f (badD v u)) (if f = "where" then some u' else if f = "rule" then some v' else none) := by
  by_cases hw : f = "where"
  · subst hw
    rw [if_pos rfl]
    have q : List.lookup ("where" : Str) (badD v u) = some u := by simp [List.lookup]
    rw [q]
    exact r2
  · rw [if_neg hw]
    have qw : (f == ("where" : Str)) = false := by simpa using hw
    by_cases hr : f = "rule"
    · subst hr
      rw [if_pos rfl]
      have q2 : List.lookup ("rule" : Str) (badD v u) = some v := by simp only [List.lookup, qw, beq_self_eq_true]
      rw [q2]
      exact r
    · rw [if_neg hr]
      have qr : (f == ("rule" : Str)) = false := by simpa using hr
      have q2 : List.lookup f (badD v u) = none := by simp only [List.lookup, qw, qr]
      rw [q2]
      trivial
section
variable {X : Cx} {C fI : Addr}
/-- BadBook(a, b) -/
def tMkBad (C : Addr) (ta : TA) : St → Hp → XK → Prop := fun σ H Q => ta σ H fun vs H1 => ∃ v u, vs = [v, u] ∧ ∀ d, H1 d = none → Q (.ref C) (some d) (upd H1 d (.xd (badD v u)))
theorem pmk_bad {a b : Expr} {ta : TA} {p pos : Pos} {k : Nat} (T : PySem.BadX.BadTxt X.prog X.K X.mg C fI) (hr : Room k X.A) (ha : PA X [a, b] ta) (hg : Gl X "BadBook" := by rfl)
    (he : starEach (a :: [b]) X.env = (false, eval a X.env) :: starEach [b] X.env := by rfl) (hpl : (backTo pos (starEach [b] X.env)).any (·.1) = false := by rfl) :
    PMk X (.Call (.Name "BadBook" p) [a, b] [] pos) (tMkBad C ta) := by
  intro pins s σ H Q I h
  refine wpAny_Call_Name_kw (ld_glob I hg T.gC ?_)
  refine PySem.W.callWith_K (h₀ := X.base) I.ok.mod.kin T.kC (thn (ha.run pos pins s σ H _ I h) fun us s1 hh => ?_) he hpl
  obtain ⟨vs, H1, I1, r1, v, u, ev, q1⟩ := hh
  subst ev
  refine ⟨I1.kIn, ?_⟩
  cases r1 with
  | cons rv rn =>
    rename_i v' us'
    cases rn with
    | cons ru rn =>
    rename_i u' us'
    cases rn
    show wpAny _ _ (call (.ref C) [v', u']) _ _ _
    have hlim := I1.nolimit
    obtain ⟨mb, b1, b2⟩ := I1.mod.blt
    have G := I1.mod.glob.keeps I1.bk
    have B := b1.keeps I1.bk
    obtain ⟨hp, g, dr, tk, os⟩ := s1
    refine wpAny_call (PySem.BadX.bad_made T I1.kIn hlim G B b2 (by have := hr.dp; omega) fun h' tk' e d M => ?_)
    show MkP X pins σ Q (.ref e) ⟨h', g, dr, tk', os⟩
    obtain ⟨oe, fv, hoe, hc, hd, hdat, h1⟩ := M.obj
    have hns := M.ns
    obtain ⟨G', g1, g2⟩ := restrict h' fun b => decide (b ≠ e)
    have gk : ∀ b, b ≠ e → G'.get? b = h'.get? b := fun b hb => g1 b (decide_eq_true hb)
    have ge : G'.get? e = none := g2 e (by simp)
    have old : ∀ b o, hp.get? b = some o → G'.get? b = some o := fun b o q => (gk b (Nat.ne_of_lt (Nat.lt_of_lt_of_le (Heap.lt_size q) M.new))).trans (M.keep b o q)
    have ob : ObjOk X.prog X.w (upd H1 d (.xd (badD v u))) G' d (.xd (badD v u)) :=
      ⟨_, hns.at (fun o q => (gk d M.dne).trans q), fun f => relO_bad rv ru f⟩
    have J : Inv X pins σ (upd H1 d (.xd (badD v u))) ⟨G', g, dr, tk', os⟩ := I1.laid (t' := tk') old M.dbig ob
    refine ⟨e, oe, fv, ⟨G', g, dr, tk', os⟩, _, .ref C, some d, rfl, J, fun b o q => ?_, ge, hoe, ⟨hc, hd⟩, hdat, h1, ?_, rfl, I1.bare, raises_own T.exC T.tyC, q1 d (I1.hok.fresh M.dbig)⟩
    · by_cases hb : b = e
      · have q' : G'.get? b = some o := q
        rw [hb, ge] at q'; cases q'
      · exact (gk b hb).symm.trans q
    · rw [upd_ne (Ne.symm M.dne)]
      exact I1.hok.fresh M.new
/-- raise BadBook(a, b) -/
def tRaiseBad (C : Addr) (W : WX) (ta : TA) : TS := fun _ σ H => tMkBad C ta σ H fun cls d H' => W cls d σ H'
theorem ps_raiseBad {a b : Expr} {ta : TA} {W : WX} {p pos pos2 : Pos} {k : Nat} (hc : X.calm = true) (T : PySem.BadX.BadTxt X.prog X.K X.mg C fI) (hr : Room k X.A) (tk : Takes X W) (ha : PA X [a, b] ta) (hg : Gl X "BadBook" := by rfl)
    (he : starEach (a :: [b]) X.env = (false, eval a X.env) :: starEach [b] X.env := by rfl) (hpl : (backTo pos (starEach [b] X.env)).any (·.1) = false := by rfl) :
    PS X (.Raise (some (.Call (.Name "BadBook" p) [a, b] [] pos)) none pos2) (tRaiseBad C W ta) := ps_raise hc tk (pmk_bad T hr ha hg he hpl)
/-- e.rule, e the exception that the suite holds (at a; its class cls, its dict d) -/
def tByBad (C : Addr) (a : Addr) (cls : Value) (d : Option Addr) (te : TE) : TE := fun σ H Q => te σ H fun x H1 => x = .ref a ∧ cls = .ref C ∧ ∃ (dd : Addr) (v u : V), d = some dd ∧ H1 dd = some (.xd (badD v u)) ∧ Q v H1
theorem pe_byBad {a : Addr} {oe : Obj} {cls : Value} {d : Option Addr} {pn : List (Addr × Obj)} {e : Expr} {te : TE} {pos : Pos} (T : PySem.BadX.BadTxt X.prog X.K X.mg C fI) (hz : Zc cls d oe) (hf : ∃ vs, oe.data = .fields vs) (he : PE (X.suite a ((a, oe) :: pn)) e te)
    (hb : attributeBase e "rule" X.env (eval e X.env) = eval e X.env := by rfl) :
    PE (X.suite a ((a, oe) :: pn)) (.Attribute e "rule" pos) (tByBad C a cls d te) := by
  refine ⟨fun pins s σ H Q I h => ?_⟩
  refine attr_of hb (thn (he.run pins s σ H _ I h) fun u s1 hh => ?_)
  obtain ⟨x, H1, I1, rx, ex, ec, dd, v, u0, ed, ea, q⟩ := hh
  subst ex
  obtain rfl : u = Value.ref a := rx
  subst ec
  subst ed
  obtain ⟨ha, _⟩ := I1.pin (a, oe) (List.mem_append_left _ List.mem_cons_self)
  obtain ⟨vs, hd⟩ := hf
  have hx : ObjOk X.prog X.w H1 s1.heap dd (.xd (badD v u0)) := I1.hok dd _ ea
  obtain ⟨mA, hns, hr⟩ := hx
  obtain ⟨od, ho, hl⟩ := lookIn_ns hns
  have l : List.lookup ("rule" : Str) (badD v u0) = some v := by
    have qw : (("rule" : Str) == ("where" : Str)) = false := by decide +kernel
    simp only [List.lookup, qw, beq_self_eq_true]
  obtain ⟨u, hu, ru⟩ := RelO.some_of (v := v) (o := mA "rule") (by rw [← l]; exact hr "rule")
  have J : PySem.W.InstAt s1.heap a oe C (some od) := ⟨ha, hz.1, by unfold PySem.W.notCls; rw [hd] <;> rfl, by rw [hz.2]; exact ho⟩
  exact HandSPX.exc_get I1.kIn J T.ga T.gg T.exC (PySem.W.findObj_own T.hdC T.noR rfl (by rw [hl, hu])) (handed_of ru) ⟨v, H1, I1.tok _, ru, q⟩
end
end L2

/-! text BmSrt -/
set_option Elab.async false
set_option linter.all false
set_option maxRecDepth 100000
set_option maxHeartbeats 4000000
namespace PySem
namespace SrtX
open PySem.W PySem.Calls PyProof.Rows
section
variable {prog : Program} {w : World} {A : Around} {E : Value → Shared → Prop} {s : Shared}
/-- collect of a tuple, as SortShell's collect_list of a list -/
theorem collect_tup {l : Addr} {vs : List Value} {Q : List Value → Shared → Prop} (hl : s.heap.IsTuple l vs.toArray)
    (h : Q vs { s with heap := (s.heap.push (seqObj "list" #[] 0)).update s.heap.objs.size (Obj.mapSeq (· ++ vs.toArray)) }) (hsz : vs.length ≤ sizeLine) :
    wpAny (model prog w) A (collect (.ref l)) Q E s := by
  obtain ⟨o, ho, hc, n, hd⟩ := id hl
  unfold collect
  refine wpAny_bind (wpAny_runValue (codeAny_builtin entry_proto_collect' ?_))
  show wpAny _ _ (do again (.builtin "list.__iadd__" ⟨[← newList [], .ref l], []⟩)) _ _ s
  refine wpAny_bind (wpAny_newList (wpAny_pure ⟨Code.quiet_builtin _ (by decide +kernel), codeAny_builtin entry_list_iadd' ?_⟩))
  show wpAny _ _ (Builtin.List.listExtendWith (.ref s.heap.objs.size) (.ref l) (.ref s.heap.objs.size)) _ _ { s with heap := s.heap.push (seqObj "list" #[] 0) }
  unfold Builtin.List.listExtendWith
  have ho' : (s.heap.push (seqObj "list" #[] 0)).get? l = some o := Heap.get?_push_of_some _ ho
  refine wpAny_bind (wpAny_typeOf (T := "tuple") ⟨o, ho', hc⟩ ?_)
  have ht : (Value.type "tuple" == Value.type "tuple") = true := by rfl
  rw [if_pos (by rw [ht]; simp)]
  refine wpAny_bind (listItems_at ho' hd ?_)
  refine wpAny_bind (listItems_at (xs := #[]) (n := 0) (Heap.get?_push_size _ rfl) rfl ?_)
  rw [if_neg (by simp)]
  refine wpAny_bind (listUpdate_at (xs := #[]) (n := 0) (Heap.get?_push_size _ rfl) rfl ?_ (Nat.zero_le _) (by show (#[] ++ vs.toArray).size ≤ sizeLine + 1; simp only [Array.size_append, List.size_toArray, List.length_nil]; omega))
  refine wpAny_pure ?_
  show wpAny (model prog w) A (do
      let o ← load s.heap.objs.size
      match o.data with
      | .seq xs _ => pure xs.toList
      | _ => unsupported "internal:collect") Q E { s with heap := (s.heap.push (seqObj "list" #[] 0)).update s.heap.objs.size (Obj.mapSeq (· ++ vs.toArray)) }
  refine wpAny_bind (wpAny_load (get?_update_seq (Heap.get?_push_size _ rfl) _) ?_)
  show wpAny _ _ (pure ((#[] : Array Value) ++ vs.toArray).toList) Q E _
  rw [show ((#[] : Array Value) ++ vs.toArray).toList = vs by simp]
  exact wpAny_pure h
/-- as sorted_of_sort, of a tuple -/
theorem sorted_of_sortT {l : Addr} {vs : List Value} {kw : List (Str × Value)} {Q : Value → Shared → Prop} (hl : s.heap.IsTuple l vs.toArray) (hL : vs.length ≤ sizeLine) (ha1 : argsOk "sorted" ⟨[.ref l], kw⟩) (ha2 : ∀ x, argsOk "list.sort" ⟨[.ref x], kw⟩)
    (body : ∀ E' : Value → Shared → Prop, wpAny (model prog w) A.in1.in1 (Builtin.«list.sort» ⟨[.ref (s.heap.objs.size + 1)], kw⟩) (fun f s' => f = .done (.ret .none) ∧ Q (.ref (s.heap.objs.size + 1)) s') E' { s with heap := copyHeap s.heap vs }) :
    wpAny (model prog w) A (call (.builtin "sorted") [.ref l] kw) Q E s := by
  refine call_function_entry_kw kind_sorted plain_sorted entry_sorted ha1 ?_
  unfold Builtin.«sorted»
  refine wpAny_bind (m := checkCount "sorted" 1 1 _) (wpAny_pure ?_)
  refine wpAny_bind (collect_tup hl ?_ hL)
  refine wpAny_bind (wpAny_newList ?_ hL)
  have hsz : ((s.heap.push (seqObj "list" #[] 0)).update s.heap.objs.size (Obj.mapSeq (· ++ vs.toArray))).objs.size = s.heap.objs.size + 1 := by
    rw [Heap.size_update, size_push']
  show wpAny _ _ _ _ _ { s with heap := copyHeap s.heap vs }
  rw [hsz]
  refine wpAny_bind (wpAny_holding (wpAny_call_entry_kw slot_list_sort ⟨_, copyHeap_at s.heap vs, rfl⟩ entry_list_sort ?body (ha2 _)))
  case body =>
    show wpAny (model prog w) A.in1.in1 (Builtin.«list.sort» ⟨[.ref (s.heap.objs.size + 1)], kw⟩) _ _ _
    refine wpAny_mono (body _) (fun f s' hf => ?_) fun _ _ e => e
    obtain ⟨rfl, hq⟩ := hf
    exact ⟨_, rfl, wpAny_pure ⟨_, rfl, hq⟩⟩
theorem sortedT_data {β : Type} {vs : List Value} {bs : List β} {enc : β → PyData} {R : Value → β → Prop} {l : Addr} {Q : Value → Shared → Prop} (hl : s.heap.IsTuple l vs.toArray) (e : EachIs R vs bs) (er : EachIs (fun v b => ∃ as, Reads s.heap v (enc b) as) vs bs) (hal : AllAlike (bs.map enc)) (hk : Sortable (bs.map enc)) (hL : bs.length ≤ sizeLine)
    (hu : ∀ b, b ∈ bs → A.units + 2 + (enc b).depth < cLine) (h : ∀ out, out.length = bs.length → EachIs R out (bs.mergeSort (dataLe false enc)) → Q (.ref (s.heap.objs.size + 1)) { s with heap := sortedAll s.heap vs (List.toArray out) }) :
    wpAny (model prog w) A (call (.builtin "sorted") [.ref l]) Q E s := by
  have er' : EachIs (fun v b => ∃ as, Reads (sortingHeap (copyHeap s.heap vs) (s.heap.objs.size + 1) vs) v (enc b) as) vs bs := er.mono fun _ _ ⟨as, r⟩ => ⟨as, PyProof.Rows.Reads.keeps (fun _ _ => sorting_copy_old) r⟩
  have S := SortsAt.data (prog := prog) (w := w) (A := A.in1.in1) (s := { s with heap := sortingHeap (copyHeap s.heap vs) (s.heap.objs.size + 1) vs }) (each_map (R := fun v d => ∃ as, Reads (sortingHeap (copyHeap s.heap vs) (s.heap.objs.size + 1) vs) v d as) enc er') hal hk (bound_map hu)
  have hz : vs.length ≤ sizeLine := by rw [e.length]; exact hL
  exact sorted_of_sortT hl hz (args_sorted1 _) (fun _ => args_list_sort _) fun _ => list_sort_vals (s := { s with heap := copyHeap s.heap vs }) (copyHeap_at s.heap vs) S hz ⟨rfl, h _ (by rw [sortVals_length false rfl]; exact e.length) (sortVals_data false e er' hal)⟩
end
end SrtX
end PySem
namespace L2
open PySem PySem.Spec PyProof.Rows
/-- sorted of data -/
def rSrt (K : PySem.W.Frag) : List V → Hp → VK → Prop := fun vs H Q => ∃ (a : Addr) (bs : List (V × PyData)), vs = [.ref a] ∧ (SqL K H a (bs.map (·.1)) ∨ SqT K H a (bs.map (·.1))) ∧ (∀ b ∈ bs, Dp K H b.1 b.2) ∧ PySem.W.AllAlike (bs.map (·.2)) ∧ PySem.W.Sortable (bs.map (·.2)) ∧
  (∀ b ∈ bs, b.2.depth ≤ 2) ∧ ∀ p, H p = none → Q (.ref p) (upd H p (.lst ((bs.mergeSort (PySem.W.dataLe false (·.2))).map (·.1))))
theorem eachIs_vals : ∀ {bs : List (V × PyData)} {us : List Value}, Vals (bs.map (·.1)) us → PySem.W.EachIs (fun u b => RelV b.1 u) us bs
  | [], _, r => by cases r; exact .nil
  | b :: bs, _, r => by
    cases r with
    | cons h t => exact .cons h (eachIs_vals t)
theorem vals_eachIs : ∀ {bs : List (V × PyData)} {us : List Value}, PySem.W.EachIs (fun u b => RelV b.1 u) us bs → Vals (bs.map (·.1)) us
  | [], _, r => by cases r; exact .nil
  | b :: bs, _, r => by
    cases r with
    | cons h t => exact .cons h (vals_eachIs t)
theorem eachIs_mem {α β : Type} {R S : α → β → Prop} : ∀ {as : List α} {bs : List β}, PySem.W.EachIs R as bs → (∀ a b, b ∈ bs → R a b → S a b) → PySem.W.EachIs S as bs
  | _, _, .nil, _ => .nil
  | _, _, .cons h t, k => .cons (k _ _ List.mem_cons_self h) (eachIs_mem t fun a b m => k a b (List.mem_cons_of_mem _ m))
section
variable {X : Cx}
theorem cr_srt (hu : X.A.units + 64 < cLine) : CallR X (.builtin "sorted") (rSrt X.K) := by
  intro pins s σ H vs us Q I r h
  obtain ⟨a, bs, rfl, hs, hd, hal, hk, hdep, q⟩ := h
  rw [Vals.ref1 r]
  have key : ∀ its : List Value, Vals (bs.map (·.1)) its → bs.length ≤ sizeLine → PySem.W.EachIs (fun u b => RelV b.1 u) its bs ∧ PySem.W.EachIs (fun v b => ∃ as, Reads s.heap v (b : V × PyData).2 as) its bs ∧
      (∀ out : List Value, out.length = bs.length → PySem.W.EachIs (fun u b => RelV b.1 u) out (bs.mergeSort (PySem.W.dataLe false (·.2))) → EP X pins σ Q (.ref (s.heap.objs.size + 1)) { s with heap := sortedAll s.heap its (List.toArray out) }) := fun its rv hz => by
    refine ⟨eachIs_vals rv, eachIs_mem (eachIs_vals rv) fun u b hb ru => Dp.reads I b.2 b.1 u (hd b hb) ru, fun out hl he => ?_⟩
    obtain ⟨ep, he'⟩ := PyProof.Rows.sortedAll_at s.heap its out.toArray
    have hlen : ((bs.mergeSort (PySem.W.dataLe false (·.2))).map (·.1)).length ≤ sizeLine := by
      rw [List.length_map, List.length_mergeSort]
      exact hz
    exact ⟨.ref _, upd H (s.heap.objs.size + 1) (.lst ((bs.mergeSort (PySem.W.dataLe false (·.2))).map (·.1))), I.laid (t' := s.toks) (fun _ _ => PyProof.Rows.sortedAll_old) (Nat.le_succ _) ⟨hlen, out, ep, vals_eachIs he, he'⟩, rfl, q _ (I.hok.fresh (Nat.le_succ _))⟩
  have hu2 : ∀ b, b ∈ bs → X.A.units + 2 + (b : V × PyData).2.depth < cLine := fun b hb => by
    have := hdep b hb
    omega
  rcases hs with hs | hs
  · obtain ⟨its, rv, hl, hz⟩ := I.list hs
    rw [List.length_map] at hz
    obtain ⟨k1, k2, k3⟩ := key its rv hz
    exact PySem.W.sorted_data hl.isList k1 k2 hal hk hz hu2 k3
  · obtain ⟨its, rv, hl, hz⟩ := I.tuple hs
    rw [List.length_map] at hz
    obtain ⟨k1, k2, k3⟩ := key its rv hz
    exact PySem.SrtX.sortedT_data hl k1 k2 hal hk hz hu2 k3
end
end L2

/-! text BmDt -/
set_option Elab.async false
set_option linter.all false
set_option maxRecDepth 100000
set_option maxHeartbeats 4000000
namespace L2
open PySem PySem.Spec PyProof.Rows
section
variable {X : Cx} {pins : List (Addr × Obj)} {σ : St} {H : Hp} {s : Shared} {a b : Addr} {u r : Value} {d : V} {k : List Key} {A : Around} {E : Value → Shared → Prop}
/-- setdefault of a dict whose keys are tuples -/
theorem d_setdT {kvs : List (List Key × V)} {Q : Value → Shared → Prop} (hu : A.units + 1 < cLine) (I : Inv X pins σ H s) (e : H a = some (.dT kvs)) (eb : H b = some (.tup (k.map kV))) (rd : RelV d r) (hl : kvs.length < sizeLine)
    (h1 : ∀ v, valV kvs k = some v → ∀ (w' : Value) (s' : Shared), Inv X pins σ H s' → RelV v w' → Q w' s') (h2 : valV kvs k = none → ∀ (w' : Value) (s' : Shared), Inv X pins σ (upd H a (.dT (putK kvs k d))) s' → RelV d w' → Q w' s') :
    wpAny (model X.prog X.w) A (call (.builtin "dict.setdefault") [.ref a, .ref b, r]) Q E s := by
  obtain ⟨z, hd, xs, rel, dd⟩ := dt_of I.hok e
  have hz : xs.length ≤ sizeLine := by rw [← Paired.length rel]; exact z
  refine call_setdefault_heap (hsz := hz) (tupleKind_room_in1 hu) (key_of I.hok eb) hd dd (fun p hp => ?_) fun hn h' dd' hs => ?_
  · have q := rel.val k
    rw [hp] at q
    cases q0 : valV kvs k with
    | none =>
      rw [q0] at q
      exact (show False from q).elim
    | some v0 =>
      rw [q0] at q
      exact h1 v0 q0 _ _ (I.tok _) q
  · have q := rel.val k
    rw [hn] at q
    cases q0 : valV kvs k with
    | some v0 =>
      rw [q0] at q
      exact (show False from q).elim
    | none =>
      have hl2 : (putK kvs k d).length ≤ sizeLine := by
        have := length_putK kvs k d
        omega
      obtain ⟨q, es, ep, hq, h2', h3, h4, _, h5⟩ := dd'
      refine h2 q0 _ _ (d_write I (by rw [e]; exact True.intro) hs ⟨q, hq⟩ ⟨hl2, hd, _, (rel.put k eb rd).keeps fun c ys ec => ?_, q, es, ep, hq, h2', h3, h4, h5⟩) rd
      rw [upd_ne (ne_of ec e (fun z => nomatch z))]
      exact ec
/-- an entry of a locked dict with tuple keys -/
theorem Inv.frzTV {o : Obj} {kvs : List (List Key × V)} (I : Inv X pins σ H s) (h : H a = some (.frz o (.dT kvs))) :
    (a == sysModules) = false ∧ s.heap.get? a = some o ∧ o.ExactDict ∧ ∃ (es : Array DictEntry) (ep : Nat), o.data = .dict es ep ∧ es.size = kvs.length ∧
      ∀ (i : Nat) (k : List Key) (v : V), kvs[i]? = some (k, v) → ∃ en : DictEntry, es[i]? = some en ∧ RelV v en.val := by
  obtain ⟨hd, z, hs, xs, pr, o', es, ep, ho, hx, hdt, he, _⟩ := I.hok a _ h
  rw [hd] at ho
  cases ho
  refine ⟨hs, hd, hx, es, ep, hdt, ?_, fun i k v e => ?_⟩
  · have l1 : es.size = xs.length := size_of_entries he
    have l2 : kvs.length = xs.length := Paired.length pr
    omega
  · obtain ⟨b, hb, e1, e2, e3⟩ := paired_get pr e
    have q := entry_at he i
    rw [hb] at q
    exact ⟨_, q, e3⟩
end
/-- d.setdefault(y, z), tuple keys -/
def tDSetdT (td ty tx : TE) : TE := fun σ H Q => td σ H fun x H1 => ∃ a, x = .ref a ∧ IsD H1 a ∧ ty σ H1 fun y H2 => tx σ H2 fun z H3 => ∃ (kvs : List (List Key × V)) (k : List Key) (b : Addr), H3 a = some (.dT kvs) ∧ y = .ref b ∧ H3 b = some (.tup (k.map kV)) ∧ kvs.length < sizeLine ∧
  (∀ v, valV kvs k = some v → Q v H3) ∧ (valV kvs k = none → Q z (upd H3 a (.dT (putK kvs k z))))
section
variable {X : Cx} {o e f : Expr} {td ty tx : TE} {apos cpos : Pos}
theorem pe_dsetdT (hu : X.A.units + 1 < cLine) (ho : PE X o td) (he : PE X e ty) (hf : PE X f tx) (m : M2 X o "setdefault" apos e f cpos) : PE X (.Call (.Attribute o "setdefault" apos) [e, f] [] cpos) (tDSetdT td ty tx) := by
  refine ⟨fun pins s σ H Q I h => ?_⟩
  refine wpAny_Call_method m.base m.few m.line PySem.F.plainAttrs_dict PySem.F.slot_dict_setdefault PySem.F.type_dict_setdefault (thn (ho.run pins s σ H _ I h) fun u s1 ⟨x, H1, I1, rx, a, ex, d, q1⟩ => ?_)
  subst ex
  obtain rfl : u = Value.ref a := rx
  obtain ⟨t1, t2, _⟩ := isD_at I1 d
  refine ⟨t1, t2, ?_⟩
  rw [m.trees]
  refine Calls.callWith_builtin rfl (Calls.evalArgs_plain (Calls.spliced_cons (thn (he.run pins s1 σ H1 _ I1 q1) fun iv s2 ⟨y, H2, I2, ry, q2⟩ =>
    Calls.spliced_cons (thn (hf.run pins s2 σ H2 _ I2 q2) fun fv s3 ⟨z, H3, I3, rz, kvs, k, b, ea, ey, eb, hl, q3, q4⟩ => Calls.spliced_nil ?_))))
  subst ey
  obtain rfl : iv = Value.ref b := ry
  exact d_setdT hu I3 ea eb rz hl (fun v hv w' s4 I4 rw' => ⟨v, _, I4, rw', q3 v hv⟩) fun hn w' s4 I4 rw' => ⟨z, _, I4, rw', q4 hn⟩
end
/-! ### the values of a locked dict with tuple keys -/
def Itdt (d : Addr) (o : Obj) (kvs : List (List Key × V)) : It :=
  ⟨fun i H => H d = some (.frz o (.dT kvs)) ∧ i < kvs.length, fun i H x H' => H' = H ∧ ∃ k, kvs[i]? = some (k, x), fun i H => H d = some (.frz o (.dT kvs)) ∧ kvs.length ≤ i⟩
theorem turn_valsT {P : Program} {w : World} {K : PySem.W.Frag} {tg : Expr} {d : Addr} {o : Obj} {es : Array DictEntry} {ep : Nat} {kvs : List (List Key × V)} (it : Addr) (hod : o.data = .dict es ep) : Turn P w K tg (Itdt d o kvs) [it] it (fun i h => h.IsValIter it d i kvs.length ep) where
  mem := by simp
  obj := fun i h st b hb => by
    have e : b = it := by simpa using hb
    subst e
    obtain ⟨oi, e, c, dd⟩ := st
    exact ⟨oi, e, fun v z => by rw [dd] at z; cases z⟩
  keep := fun i h h' st k => st.at fun oi e => k it (by simp) oi e
  item := by
    intro X hP hw hK hc i pins s σ H E I hf st hg
    subst hP hw hK
    obtain ⟨hd, hi⟩ := hg
    obtain ⟨f0, f1, f2, f3, f4, f5⟩ := hf it (by simp)
    obtain ⟨hs, hgd, hx, es', ep', hdt, hsz, ent⟩ := I.frzTV hd
    obtain ⟨rfl, rfl⟩ := dict_ep hod hdt
    obtain ⟨⟨k, v⟩, hkv⟩ : ∃ p, kvs[i]? = some p := ⟨kvs[i], List.getElem?_eq_getElem hi⟩
    obtain ⟨en, hen, ru⟩ := ent i k v hkv
    rw [← hsz] at st
    have hlt : i < es'.size := by rw [hsz]; exact hi
    have hv : es'[i].val = en.val := by rw [(Array.getElem?_eq_some_iff.mp hen).2]
    refine PySem.wpAny_pyNext_values_item_raw st ⟨o, hgd, hx, hdt⟩ hlt fun h' st' sb => ?_
    have I1 : Inv X pins σ H { s with heap := h' } := I.turned (t' := s.toks) (fun b ob hb e => (sb.2 b hb).trans e) f0 f1 f3 f4 f5
    obtain ⟨oi, e, c, dd⟩ := id st'
    refine ⟨es'[i].val, rfl, go_of (s := { s with heap := h' }) e c dd (by decide) ⟨v, H, I1, by rw [hv]; exact ru, ⟨rfl, k, hkv⟩, ?_, fun b hb => (hf b hb).1⟩⟩
    show h'.IsValIter it d (i + 1) kvs.length _
    rw [← hsz]
    exact st'
  done := by
    intro X hP hw hK hc i pins s σ H E I hf st hg
    subst hP hw hK
    obtain ⟨hd, hi⟩ := hg
    obtain ⟨f0, f1, f2, f3, f4, f5⟩ := hf it (by simp)
    obtain ⟨hs, hgd, hx, es', ep', hdt, hsz, ent⟩ := I.frzTV hd
    obtain ⟨rfl, rfl⟩ := dict_ep hod hdt
    rw [← hsz] at st hi
    exact PySem.wpAny_pyNext_values_end_raw (I.ok.hd hc) st ⟨o, hgd, hx, hdt⟩ hi fun h' eb => ⟨rfl, I.turned (t' := s.toks) (fun b ob hb e => eb b ob hb e) f0 f1 f3 f4 f5⟩
  self := fun A i s Q E st h => wpAny_pyIter_valiter st h
def iValsT (td : TE) : TI := fun σ H R => td σ H fun x H1 => ∃ d o kvs, x = .ref d ∧ H1 d = some (.frz o (.dT kvs)) ∧ R (Itdt d o kvs) H1
theorem pi_valuesT {X : Cx} {tg e : Expr} {td : TE} {apos cpos : Pos} (he : PE X e td) (hbase : attributeBase e "values" X.env (eval e X.env) = eval e X.env := by rfl) (hline : (apos.endLine == cpos.line) = true := by rfl) : PI X tg (.Call (.Attribute e "values" apos) [] [] cpos) (iValsT td) := by
  refine ⟨fun pins s σ H R I h => ?_⟩
  refine wpAny_Call_method (T := "dict") (id := "dict.values") hbase rfl hline F.plainAttrs_dict F.slot_dict_values F.type_dict_values (thn (he.run pins s σ H _ I h) fun u s1 ⟨x, H1, I1, rx, d, o, kvs, ex, hd, q⟩ => ?_)
  subst ex
  obtain rfl : u = Value.ref d := rx
  obtain ⟨hs, hgd, hx, es, ep, hdt, hsz, ent⟩ := I1.frzTV hd
  have hraw : s1.heap.DictRaw d es ep := ⟨o, hgd, hx, hdt⟩
  refine ⟨hraw.typeIs, fun b q => ?_, ?_⟩
  · cases q
    exact ⟨o, hgd, hx.2.1⟩
  have I2 : Inv X pins σ H1 { s1 with heap := s1.heap.push { cls := .type "dict_values", data := .fields #[.ref d] } } := I1.kept (t' := s1.toks) fun b ob q => Heap.get?_push_of_some _ q
  have fin : wpAny (model X.prog X.w) X.A (pyIter (.ref s1.heap.objs.size)) (PIE X pins σ tg R) X.xe { s1 with heap := s1.heap.push { cls := .type "dict_values", data := .fields #[.ref d] } } := by
    refine PySem.wpAny_pyIter_values_raw (d := d) (es := es) (ep := ep) ⟨_, Heap.get?_push_size _ rfl, rfl, rfl⟩ ⟨o, Heap.get?_push_of_some _ hgd, hx, hdt⟩ (pi_one (tk := s1.toks) I2 _ (turn_valsT _ hdt) ⟨_, Heap.get?_push_size _ rfl, rfl, ?_⟩ q)
    rw [hsz] <;> rfl
  show wpAny _ _ (callWith cpos (.builtin "dict.values") [.ref d] [] []) _ X.xe s1
  exact method_meetsIn F.slot_dict_values F.entry_dict_values rfl (PySem.evalArgs_none ⟨rfl, hraw.typeIs, F.args_dict_values_1 _, _, PySem.meets_dict_values_raw d hs, ⟨es, ep, hraw⟩, fin⟩)
end L2

/-! text BmSet -/
set_option Elab.async false
set_option linter.all false
set_option maxRecDepth 100000
set_option maxHeartbeats 4000000
namespace Bm
open PySem PySem.Spec PyProof.Rows L2 PpSet
section
variable {X : Cx}
theorem addI_ok {pins : List (Addr × Obj)} {σ : L2.St} {H : Hp} {s : Shared} {E : Value → Shared → Prop} {D : Addr} {S : Int → Bool} {n : Nat} {y : Int} {tk : Tok} {Q : Value → Shared → Prop} (I : Inv X pins σ H s) (hD : H D = some (SetO X.w D S n)) (room : n + 1 < scanBound)
    (h : ∀ s', Inv X pins σ (upd H D (SetO X.w D (fun j => S j || decide (j = y)) (if S y = true then n else n + 1))) s' → Q .none s') : wpAny (model X.prog X.w) X.A (call (.builtin "set.add") [.ref D, .int y tk]) Q E s := by
  have R := setO_get I hD
  refine setR_add R room fun h' sb new => ?_
  have he : ∃ u, h'.get? D = some u := by
    have ⟨o, _, _, _, ho, _⟩ := new
    exact ⟨o, ho⟩
  exact h _ (I.write (e := D) (t' := s.toks + 1) (by rw [hD]; trivial) (.inl rfl) (fun b u hb hu => (sb.2 b hb).trans hu) he (setO_new new))
/-- {elt for target in iter if ..}, elt an int, as SetBool has it of truth values: D the new set -/
def tScI (w : World) (wi : TI) (g : TG) (tt : TT) (te : TE) (vs : List Nat) : TE := fun σ H Q => wi σ H fun J H1 => ∀ D, H1 D = none → ∃ W : Nat → Nat → Hp → Prop, (∃ m, W 0 m (upd H1 D (SetO w D (fun _ => false) 0))) ∧ ∀ i m H, W i m H →
  (J.stop i H ∧ Q (.ref D) H) ∨ (J.go i H ∧ ∃ Nx : Hp → Prop, (∀ H', Nx H' → ∃ m', m' < m ∧ W (i + 1) m' H') ∧ ∀ x H', J.yld i H x H' → g x (wipe σ vs) H' fun σ2 H2 => wipe σ2 vs = wipe σ vs ∧ tt σ2 H2 fun b H3 =>
    if b = true then te σ2 H3 fun y H4 => ∃ (c : Int) (S : Int → Bool) (n : Nat), y = .int c ∧ H4 D = some (SetO w D S n) ∧ n + 1 < scanBound ∧ Nx (upd H4 D (SetO w D (fun j => S j || decide (j = c)) (if S c = true then n else n + 1))) else Nx H3)
theorem sc_coreI {pins : List (Addr × Obj)} {s : Shared} {σ : L2.St} {H : Hp} {Q : VK} {elt tg iter : Expr} {ifs : List Expr} {scope : Scope} {own : List (PySem.Str × Nat)} {pos pos' : Pos} {wi : TI} {g : TG} {tt : TT} {te : TE} {use : Option (Value → Sem Unit)} {Qf : Value → Shared → Prop}
    (hc : X.calm = true) (hN : X.N.Nodup) (I : Inv X pins σ H s) (hi : PI X tg iter wi) (ok : BlkOk X.N X.env.scope scope own)
    (hg : ∀ (s : Shared) (H : Hp) (C : Addr) (cl : List (PySem.Str × Addr)) (fp : List Addr), PG (X.blk s H scope (compEnvC scope cl C X.env) fp) tg g) (ht : ∀ (s : Shared) (H : Hp) (C : Addr) (cl : List (PySem.Str × Addr)) (fp : List Addr), PTs (X.blk s H scope (compEnvC scope cl C X.env) fp) ifs tt)
    (he : ∀ (s : Shared) (H : Hp) (C : Addr) (cl : List (PySem.Str × Addr)) (fp : List Addr), PE (X.blk s H scope (compEnvC scope cl C X.env) fp) elt te) (hs : ∀ x, foldedSetIterable iter X.env x = pure x)
    (h : tScI X.w wi g tt te (own.map (·.2)) σ H Q)
    (hRR : ∀ D C s' m H', Inv X pins σ H' s' → Q (.ref D) H' → s'.heap.Ns C m → FpOk X pins H' C → compPost (model X.prog X.w) X.A X.xe use Qf (.ref D) C (.ok .next) s') :
    wpAny (model X.prog X.w) X.A (comprehension (.SetComp elt [⟨tg, iter, ifs, 0⟩] scope pos) scope X.env pos' (newSet (.type "set")) false (eval iter X.env) use) Qf X.xe s := by
  have hfree : ∀ y ∈ scope.names, y.2 = .free → ∃ c, X.env.cells.lookup y.1 = some c := fun y hy e => by
    rcases ok.free y hy e with k | k
    · exact I.ok.has _ (.inl k)
    · exact I.ok.has _ (.inr k)
  refine wpAny_comprehension_free (use := use) rfl hs (closure_ok hfree) ok.kind (fun y hy e => by rw [ok.uniq y hy, e])
    (thn (hi.run pins s σ H _ I h) fun xv s1 hx => thn hx fun itv s2 h2 => ?_)
  obtain ⟨it, fp, tn, J, H2, e, I2, T, st2, f2, q⟩ := h2
  subst e
  refine newSet_ok (newEnv_comp ?_)
  generalize hD : s2.heap.objs.size = D
  have hDn : H2 D = none := I2.hok.fresh (Nat.le_of_eq hD)
  obtain ⟨W, ⟨m0, w0⟩, turn⟩ := q D hDn
  -- the new list
  generalize hs3 : ({ s2 with heap := s2.heap.push { cls := .type "set", dict := none, data := .set #[] 0 (.fresh 0 0 (!X.w.params.followText "set-order")) } } : Shared) = s3
  have I3 : Inv X pins σ (upd H2 D (SetO X.w D (fun _ => false) 0)) s3 := by
    rw [← hs3]
    refine I2.laid (t' := s2.toks) (fun b o e => Heap.get?_push_of_some _ e) (Nat.le_of_eq hD) ?_
    rw [← hD]
    exact setO_new (setR_fresh X.w)
  have h3 : s3.heap = s2.heap.push { cls := .type "set", dict := none, data := .set #[] 0 (.fresh 0 0 (!X.w.params.followText "set-order")) } := by rw [← hs3]
  have sz : ∀ b ∈ fp, b < s2.heap.objs.size := fun b hb => by
    obtain ⟨o, e, _⟩ := T.obj _ _ st2 b hb
    exact Heap.lt_size e
  have f3 : ∀ b ∈ fp, FpOk X pins (upd H2 D (SetO X.w D (fun _ => false) 0)) b ∧ b < s3.heap.objs.size := fun b hb => by
    have hlt := sz b hb
    refine ⟨⟨?_, (f2 b hb).2⟩, by rw [h3, Heap.size_push]; exact Nat.lt_succ_of_lt hlt⟩
    rw [upd_ne (by rw [← hD]; exact Nat.ne_of_lt hlt)]
    exact (f2 b hb).1
  have st3 : tn 0 s3.heap := T.keep _ _ _ st2 fun b _ o e => by rw [h3]; exact Heap.get?_push_of_some _ e
  have I4 := block_start I3 ok hN f3
  have pg := hg s3 (upd H2 D (SetO X.w D (fun _ => false) 0)) s3.heap.objs.size (cellsFrom (s3.heap.objs.size + 1) scope.names (cloFrom X.env.cells scope.names [])) fp
  have pt := ht s3 (upd H2 D (SetO X.w D (fun _ => false) 0)) s3.heap.objs.size (cellsFrom (s3.heap.objs.size + 1) scope.names (cloFrom X.env.cells scope.names [])) fp
  have pe := he s3 (upd H2 D (SetO X.w D (fun _ => false) 0)) s3.heap.objs.size (cellsFrom (s3.heap.objs.size + 1) scope.names (cloFrom X.env.cells scope.names [])) fp
  show codeAny _ _ (.compStart (.SetComp elt [⟨tg, iter, ifs, 0⟩] scope pos) 0 (.ref it) (.ref D) (compEnvC scope (cellsFrom (s3.heap.objs.size + 1) scope.names (cloFrom X.env.cells scope.names [])) s3.heap.objs.size X.env)) (compPost (model X.prog X.w) X.A X.xe use Qf (.ref D) s3.heap.objs.size) { s3 with heap := pushCells (s3.heap.push { cls := .type "dict", data := .dict #[] }) scope.names }
  have nfp : ∀ b ∈ fp, (upd H2 D (SetO X.w D (fun _ => false) 0)) b = none := fun b hb => (f3 b hb).1.1
  generalize hce : compEnvC scope (cellsFrom (s3.heap.objs.size + 1) scope.names (cloFrom X.env.cells scope.names [])) s3.heap.objs.size X.env = ce at I4 pg pt pe ⊢
  have cL : ce.locals = s3.heap.objs.size := by subst hce; rfl
  generalize hH3 : upd H2 D (SetO X.w D (fun _ => false) 0) = H3 at I3 I4 pg pt pe w0 nfp f3
  generalize hs4 : ({ s3 with heap := pushCells (s3.heap.push { cls := .type "dict", data := .dict #[] }) scope.names } : Shared) = s4 at I4 ⊢
  have st4 : tn 0 s4.heap := T.keep _ _ _ st3 fun b _ o e => by rw [← hs4]; exact pushCells_keeps _ _ _ _ (Heap.get?_push_of_some _ e)
  have stat : ∀ {σ' : L2.St} {H' : Hp} {s' : Shared}, Inv (X.blk s3 H3 scope ce fp) [] σ' H' s' → (∀ b ∈ fp, H' b = none) → ∀ b ∈ fp, FpOk (X.blk s3 H3 scope ce fp) [] H' b := fun {σ' H' s'} I' hn b hb =>
    ⟨hn b hb, (I'.ok.exf b hb).1, I'.ok.exfs b hb, .inl hb, fun x c e => (I'.ok.exf b hb).2 x c e, fun p hp => absurd (show p ∈ ([] : List (Addr × Obj)) ++ [] from hp) (by simp)⟩
  have loop : codeAny (model X.prog X.w) X.A (.compLoop (.SetComp elt [⟨tg, iter, ifs, 0⟩] scope pos) 0 (.ref it) (.ref D) ce) (compPost (model X.prog X.w) X.A X.xe use Qf (.ref D) s3.heap.objs.size) s4 := by
    refine compLoopS_any (fun n s' => ∃ i H', Inv (X.blk s3 H3 scope ce fp) [] (wipe σ (own.map (·.2))) H' s' ∧ tn i s'.heap ∧ (∀ b ∈ fp, H' b = none) ∧ W i n H') ?_ m0 ⟨0, H3, I4, st4, nfp, w0⟩
    rintro n s5 ⟨i, H5, I5, st5, n5, w5⟩
    rcases turn i n H5 w5 with ⟨stop, qq⟩ | ⟨go, Nx, hNx, step⟩
    · have td := T.done (X.blk s3 H3 scope ce fp) rfl rfl rfl hc i [] s5 _ H5 (fun _ _ => False) I5 (stat I5 n5) st5 stop
      refine thnF td fun r s6 ⟨hr, I6⟩ => ?_
      subst hr
      -- back in the def's context
      have I7 : Inv X pins σ H5 s6 := I3.call' (ch := fp) I6.os I6.base I6.hok I6.bare fun b hb => ⟨(f3 b hb).1.2.2.2.1, (f3 b hb).1.2.1, (f3 b hb).1.2.2.2.2.1, (f3 b hb).1.2.2.2.2.2⟩
      have nC : H5 s3.heap.objs.size = none := by
        have z : H5 ce.locals = none := I6.free
        rw [cL] at z
        exact z
      obtain ⟨m, hn, _⟩ := I6.loc
      have hn : s6.heap.Ns ce.locals m := hn
      rw [cL] at hn
      exact hRR D s3.heap.objs.size s6 m H5 I7 qq hn (I3.fpOk (Nat.le_refl _) nC)
    · have ti := T.item (X.blk s3 H3 scope ce fp) rfl rfl rfl hc i [] s5 _ H5 (fun _ _ => False) I5 (stat I5 n5) st5 go
      refine thnF ti fun r s6 ⟨u, hr, h6⟩ => ?_
      subst hr
      refine thnF h6 fun _ s7 ⟨x, H7, I7, r7, y7, st7, n7⟩ => ?_
      have I7' := I7.pinned (stat I7 n7) (T.obj _ _ st7)
      refine thnF (pg.run _ s7 _ H7 x u _ I7' r7 (step x H7 y7)) fun _ s8 ⟨σ8, H8, I8, hw8, q8⟩ => ?_
      refine thnF (pt.run _ s8 σ8 H8 _ I8 q8) fun b s9 ⟨H9, I9, q9⟩ => ?_
      -- the turn's end
      have fin : ∀ {s' : Shared} {H' : Hp}, Inv (X.blk s3 H3 scope ce fp) ([] ++ pinsAt fp s7.heap) σ8 H' s' → Nx H' → ∃ m, m < n ∧ ∃ i H', Inv (X.blk s3 H3 scope ce fp) [] (wipe σ (own.map (·.2))) H' s' ∧ tn i s'.heap ∧ (∀ b ∈ fp, H' b = none) ∧ W i m H' := fun {s' H'} I' nx => by
        obtain ⟨m', hm, w'⟩ := hNx H' nx
        have pin' : ∀ b ∈ fp, ∀ o, s7.heap.get? b = some o → s'.heap.get? b = some o ∧ H' b = none := fun b hb o e =>
          let z := I'.pin (b, o) (List.mem_append_right _ (List.mem_append_right _ (mem_pinsAt hb e)))
          ⟨z.1, z.2.1⟩
        have hl : (wipe σ (own.map (·.2))).length = σ8.length := by rw [← hw8, wipe_length]
        refine ⟨m', hm, i + 1, H', (I'.unpinned (pins := [])).weak hl (fun j v e => ?_), T.keep _ _ _ st7 fun b hb o e => (pin' b hb o e).1, fun b hb => ?_, w'⟩
        · rw [← hw8] at e
          exact (wipe_some e).1
        · obtain ⟨o, e, _⟩ := T.obj _ _ st7 b hb
          exact (pin' b hb o e).2
      cases b with
      | false =>
        simp only [Bool.false_eq_true, if_false] at q9 ⊢
        exact fin I9 q9
      | true =>
        simp only [if_true] at q9 ⊢
        refine thnF (pe.run _ s9 σ8 H9 _ I9 q9) fun z s10 ⟨yv, H10, I10, r10, cb, S0, n0, ey, hD10, hz10, nx⟩ => ?_
        subst ey
        obtain ⟨tk0, rfl⟩ := (show ∃ t, z = Value.int cb t from r10)
        exact addI_ok (X := X.blk s3 H3 scope ce fp) I10 hD10 hz10 fun s11 I11 => fin I11 nx
  exact codeAny_compStart_set loop (T.self X.A 0 _ _ _ st4 loop)
/-- as a value -/
theorem pe_scI {elt tg iter : Expr} {ifs : List Expr} {scope : Scope} {own : List (PySem.Str × Nat)} {pos : Pos} {wi : TI} {g : TG} {tt : TT} {te : TE} (hc : X.calm = true) (hN : X.N.Nodup) (hi : PI X tg iter wi) (ok : BlkOk X.N X.env.scope scope own)
    (hg : ∀ (s : Shared) (H : Hp) (C : Addr) (cl : List (PySem.Str × Addr)) (fp : List Addr), PG (X.blk s H scope (compEnvC scope cl C X.env) fp) tg g) (ht : ∀ (s : Shared) (H : Hp) (C : Addr) (cl : List (PySem.Str × Addr)) (fp : List Addr), PTs (X.blk s H scope (compEnvC scope cl C X.env) fp) ifs tt)
    (he : ∀ (s : Shared) (H : Hp) (C : Addr) (cl : List (PySem.Str × Addr)) (fp : List Addr), PE (X.blk s H scope (compEnvC scope cl C X.env) fp) elt te) (hs : ∀ x, foldedSetIterable iter X.env x = pure x := by intro _; rfl) :
    PE X (.SetComp elt [⟨tg, iter, ifs, 0⟩] scope pos) (tScI X.w wi g tt te (own.map (·.2))) := by
  refine ⟨fun pins s σ H Q I h => ?_⟩
  rw [eval_SetComp]
  refine sc_coreI hc hN I hi ok hg ht he hs h fun D C s' m H' I' q hn f => ⟨m, hn, fun h'' sb => ?_⟩
  obtain ⟨f0, f1, f2, f3, f4, f5⟩ := f
  exact ⟨.ref D, H', I'.turned (t' := s'.toks) (fun b o hb e => (sb.2 b hb).trans e) f0 f1 f3 f4 f5, rfl, q⟩
end

section
variable {X : Cx}
/-- len(a set of ints) -/
def rLenSO (w : World) : List V → Hp → VK → Prop := fun vs H Q => ∃ (a : Addr) (S : Int → Bool) (n : Nat), vs = [.ref a] ∧ H a = some (SetO w a S n) ∧ Q (.int n) H
theorem cr_lenSO : CallR X (.builtin "len") (rLenSO X.w) := by
  intro pins s σ H vs us Q I r h
  obtain ⟨a, S, n, rfl, ha, q⟩ := h
  rw [Vals.ref1 r]
  obtain ⟨o, es, ep, t, ho, hex, hd, _, _, _, hb, hf, hn, _⟩ := setO_get I ha
  have hsz : (es.size : Int) < 2 ^ 63 := by
    have : es.size < scanBound := hb
    have e : scanBound ≤ 2 ^ 40 := by decide
    omega
  refine call_len_set ho hex hd hf hsz ⟨.int n, H, I.tok _, ⟨_, by rw [hn]⟩, q⟩
/-- len(set(xs)), xs a tuple of ints: the number is not told -/
def tLenSetI (K : PySem.W.Frag) (ta : TE) : TE := fun σ H Q => ta σ H fun x H1 => ∃ (l : Addr) (ns : List Int), x = .ref l ∧ SqT K H1 l (ns.map V.int) ∧ ns.length ≤ 1000 ∧ ∀ c : Nat, Q (.int c) H1
theorem pe_lenSetI {a : Expr} {ta : TE} {p p2 q pos : Pos} (hc : X.calm = true) (hg : Gl X "len") (hm : X.mg "len" = none) (hg2 : Gl X "set") (hm2 : X.mg "set" = none) (ha : PE X a ta)
    (na : starEach [a] X.env = (false, eval a X.env) :: starEach [] X.env := by rfl) : PE X (.Call (.Name "len" p) [.Call (.Name "set" p2) [a] [] q] [] pos) (tLenSetI X.K ta) := by
  refine ⟨fun pins s σ H Q I h => ?_⟩
  refine Call_ (ld_blt I hg hm boot_len ?_)
  refine PyProof.Rows.callWith_builtin1 (PyProof.Rows.args_cons ?_ rfl) rfl rfl
  refine Call_ (ld_blt I hg2 hm2 boot_set ?_)
  refine PyProof.Rows.callWith_type1 (PyProof.Rows.args_cons (thn (ha.run pins s σ H _ I h) fun v s1 ⟨x, H1, I1, r1, q1⟩ => PyProof.Rows.args_nil ?_) na) na rfl
  obtain ⟨l, ns, rfl, hq, h1, q1⟩ := q1
  cases r1
  obtain ⟨its, r, pl, hz⟩ := I1.tuple hq
  have hb0 : ns.length + 1 < scanBound := by
    have : (2000 : Nat) ≤ scanBound := by decide
    omega
  refine call_set_tupI ns (I1.ok.hd hc) pl (by simpa using r.ints) hb0 fun h' tk c hS hcn hk => ?_
  refine PyProof.Rows.args_nil ?_
  obtain ⟨o, es, ep, t, ho, hex, hd, _, _, _, hb, hf, hn, _⟩ := hS
  have I2 : Inv X pins σ H1 { s1 with heap := h', toks := tk } := I1.kept fun b o e => hk b o e
  refine call_len_set ho hex hd hf (by rw [hn] <;> omega) ⟨.int c, H1, I2.tok _, ⟨_, by rw [hn]⟩, q1 c⟩
end
end Bm

/-! text BmIns -/
set_option Elab.async false
set_option linter.all false
set_option maxRecDepth 100000
set_option maxHeartbeats 4000000
namespace Fz
open PySem L2
/-! ### instances -/
def PIns (C : Addr) (fr : List (Str × Pr)) : Pr := ⟨fun v F => ∃ a dx fs, v = .ref a ∧ F a = some (.ins C dx fs) ∧ FrOk F fs fr, fun e ⟨a, dx, fs, h1, h2, h3⟩ => ⟨a, dx, fs, h1, e _ _ h2, FrOk.up e h3⟩⟩
theorem FrOk.lookN {F : Hp} {f : Str} : ∀ {fs : List (Str × V)} {fr : List (Str × Pr)}, FrOk F fs fr → fr.lookup f = none → fs.lookup f = none
  | [], [], _, _ => rfl
  | (g, v) :: ps, (g', R') :: qs, ⟨h1, h2, h3⟩, h => by
    have h1 : g = g' := h1
    subst h1
    by_cases z : (f == g) = true
    · simp only [List.lookup, z] at h
      cases h
    · have z' : (f == g) = false := by simpa using z
      simp only [List.lookup, z'] at h ⊢
      exact FrOk.lookN h3 h
  | [], _ :: _, h, _ => h.elim
  | _ :: _, [], h, _ => h.elim
section
variable {F0 H0 : Hp} {t u w : TS} {env : List Sl} {P : Po} {te ta tb tl : TE} {tr : TA} {tt : TT} {R : Pr} {Rs : List Pr} {d : PyData} {i j k : Nat} {b : Bool} {K : PySem.W.Frag} {C a : Addr} {fr : List (Str × Pr)} {f : Str} {E : XK}
theorem evr_fld (h : EvR te env (PIns C fr)) (hl : fr.lookup f = some R) (c : Cls K C) (n : NoAttr K C f) : EvR (tFld K te f) env R := fun H0 F H σ o e Q q =>
  h H0 F H σ o e _ fun v F1 H1 g1 ⟨a, dx, fs, ev, ea, fo⟩ => by
    obtain ⟨w, l, r⟩ := fo.look hl
    exact ⟨a, C, dx, fs, w, ev, g1.s _ _ ea, c, n, l, q w F1 H1 g1 r⟩
theorem evr_meth {S : List Pr → Pr → Prop} {m : Str} (h : EvR ta env (PIns C fr)) (hl : fr.lookup m = none) (ha : EvAs tr env Rs) (hs : S (PIns C fr :: Rs) R) : EvR (tMeth C m (Fs S) [] E ta tr) env R := fun H0 F H σ o e Q q =>
  h H0 F H σ o e _ fun v F1 H1 g1 r => by
    obtain ⟨a, dx, fs, ev, ea, fo⟩ := id r
    refine ⟨a, dx, fs, ev, g1.s _ _ ea, fo.lookN hl, ha H0 F1 H1 σ (o.gr g1) (e.trans g1.h) _ fun vs F2 H2 g2 r2 => ⟨_, R, F2, hs, g2.s, ⟨(PIns C fr).up g2.f r, by rw [List.append_nil]; exact r2⟩, fun v F' H' g r' => q v F' H' ((g1.trans g2).trans g) r'⟩⟩
theorem se_fld (hi : env[i]? = some (.ins a C fr)) (he : EvR te env R) (c : Cls K C) (n : NoAttr K C f) (hlen : fr.length < 1000) (hnew : (fr.all fun q => decide (q.1 ≠ f)) = true) (h : P.nx (env.set i (.ins a C (fr ++ [(f, R)])))) : SE F0 H0 (sFld K (tVar i) te f) env P := fun F H σ D g o m =>
  he H0 F H σ o g.h _ fun v F1 H1 g1 r1 => by
    have o1 := o.gr g1
    obtain ⟨dx, fs, h1, h2, h3, h4, h5⟩ := o1.ins i a C fr hi
    exact ⟨.ref a, h1, a, C, dx, fs, rfl, h2, c, n, by rw [h5.length]; exact hlen, m.nx _ F1 _ σ h ((g.trans g1).put h3 h4) g1.f (o1.mutI hi (FrOk.put r1 h5 hnew))⟩
theorem sq_fld (hi : env[i]? = some (.ins a C fr)) (he : EvR te env R) (c : Cls K C) (n : NoAttr K C f) (hlen : fr.length < 1000) (hnew : (fr.all fun q => decide (q.1 ≠ f)) = true) (h : SE F0 H0 u (env.set i (.ins a C (fr ++ [(f, R)]))) P) : SE F0 H0 (tSeq (sFld K (tVar i) te f) u) env P :=
  se_seq (fun e => e = env.set i (.ins a C (fr ++ [(f, R)]))) (se_fld hi he c n hlen hnew rfl) fun _ e => by rw [e]; exact h
end
/-! ### __init__ -/
/-- no slot is owned -/
theorem Ok.rebase {H0 H0' F H : Hp} {σ : L2.St} {env : List Sl} (o : Ok H0 F H σ env) (no : ∀ i, ¬ Ownd env i) : Ok H0' F H σ env where
  ex := o.ex
  has := o.has
  own := fun i ds h => absurd (.inl ⟨ds, h⟩) (no i)
  ins := fun i a C fr h => absurd (.inr ⟨a, C, fr, h⟩) (no i)
  ap := fun i j a _ h1 => absurd h1 (no i)
  len := o.len
/-- an instance that is being made, at slot i -/
theorem Ok.setI {H0 F H : Hp} {σ : L2.St} {env : List Sl} {i : Nat} {a C dx : Addr} {fs : List (Str × V)} {fr : List (Str × Pr)} (o : Ok H0 F H σ env) (no : ∀ i, ¬ Ownd env i) (hs : σ[i]? = some (some (.ref a))) (ha : H a = some (.ins C dx fs)) (hF : F a = none) (h0 : H0 a = none) (hr : FrOk F fs fr) :
    Ok H0 F H σ (env.set i (.ins a C fr)) where
  ex := o.ex
  has := fun j R' h => by
    rcases get_set h with ⟨e, q⟩ | ⟨e, q⟩
    · cases q
    · exact o.has j R' q
  own := fun j es h => by
    rcases get_set h with ⟨e, q⟩ | ⟨e, q⟩
    · cases q
    · exact absurd (.inl ⟨es, q⟩) (no j)
  ins := fun j b C' fr' h => by
    rcases get_set h with ⟨e, q⟩ | ⟨e, q⟩
    · subst e
      cases q
      exact ⟨dx, fs, hs, ha, hF, h0, hr⟩
    · exact absurd (.inr ⟨b, C', fr', q⟩) (no j)
  ap := fun j l b hjl h1 h2 _ _ => by
    have e1 : j = i := by
      apply Decidable.byContradiction
      intro z
      exact no j (h1.of_set z)
    have e2 : l = i := by
      apply Decidable.byContradiction
      intro z
      exact no l (h2.of_set z)
    exact hjl (e1.trans e2.symm)
  len := by rw [List.length_set]; exact o.len
theorem no_own_start {Rs : List Pr} {n : Nat} : ∀ i, ¬ Ownd (Rs.map Sl.has ++ List.replicate n Sl.no) i := fun i h => by
  have no : ∀ s : Sl, (Rs.map Sl.has ++ List.replicate n Sl.no)[i]? = some s → (∃ R, s = .has R) ∨ s = .no := by
    intro s hs
    have hm := List.mem_of_getElem? hs
    rcases List.mem_append.mp hm with z | z
    · obtain ⟨R, _, e⟩ := List.mem_map.mp z
      exact .inl ⟨R, e.symm⟩
    · exact .inr (List.eq_of_mem_replicate z)
  rcases h with ⟨ds, q⟩ | ⟨a, C, fr, q⟩
  · rcases no _ q with ⟨R, e⟩ | e <;> cases e
  · rcases no _ q with ⟨R, e⟩ | e <;> cases e
/-- the promise of an __init__ of the class at C; where ok fails, an error of the class at CE -/
def Fi (C CE : Addr) (S : List Pr → Prop → List (Str × Pr) → Prop) : Sp := fun vs H Q E => ∃ (x dx : Addr) (us : List V) (Rs : List Pr) (ok : Prop) (fr : List (Str × Pr)) (F H1 : Hp), vs = .ref x :: us ∧ H x = some (.ins C dx []) ∧ H1 x = none ∧ S Rs ok fr ∧ Ex F H1 ∧ Ex H1 H ∧ AllP us Rs F ∧
  (ok → ∀ F' H' dx' fs, Gr F H1 F' H' → F' x = none → H' x = some (.ins C dx' fs) → FrOk F' fs fr → Q .non H') ∧
  (¬ ok → ∀ F' H' d (k : Int) u, Gr F H1 F' H' → H' d = some (.xd (badD (.int k) u)) → E (.ref CE) (some d) H')
theorem Fi.len {C CE : Addr} {S : List Pr → Prop → List (Str × Pr) → Prop} {n : Nat} (h : ∀ Rs ok fr, S Rs ok fr → Rs.length + 1 = n) {vs : List V} {H : Hp} {Q : VK} {E : XK} (q : Fi C CE S vs H Q E) : vs.length = n := by
  obtain ⟨x, dx, us, Rs, ok, fr, F, H1, rfl, _, _, s, _, _, a, _⟩ := q
  rw [List.length_cons, a.len, h Rs ok fr s]
theorem se_bodyI {C x dx : Addr} {us : List V} {Rs : List Pr} {ok : Prop} {fr : List (Str × Pr)} {F H H1 : Hp} {N : List Str} {t : TS} {Q : VK} {n : Nat} (hn : N.length = n + 1) (hx : H x = some (.ins C dx [])) (hx1 : H1 x = none) (e : Ex F H1) (e1 : Ex H1 H) (ha : AllP us Rs F)
    (hq : ok → ∀ F' H' dx' fs, Gr F H1 F' H' → F' x = none → H' x = some (.ins C dx' fs) → FrOk F' fs fr → Q .non H')
    (h : SE F H1 t (.ins x C [] :: (Rs.map .has ++ List.replicate (n - Rs.length) .no)) { nx := fun env => ok ∧ ∃ rest, env = .ins x C fr :: rest, rt := ⟨fun _ _ => False, fun _ h => h⟩ }) : t { nx := fun _ H' => Q .non H', rt := Q } (L2.start N (.ref x :: us)) H := by
  have hF : F x = none := e.free hx1
  have o := ok_start0 (Rs := Any :: Rs) (vs := .ref x :: us) hn (e.trans e1) ⟨True.intro, ha⟩
  have no := no_own_start (Rs := Any :: Rs) (n := n + 1 - (Any :: Rs).length)
  have o2 := (o.rebase (H0' := H1) no).setI (i := 0) no (fr := []) rfl hx hF hx1 True.intro
  have es : ((Any :: Rs).map Sl.has ++ List.replicate (n + 1 - (Any :: Rs).length) Sl.no).set 0 (.ins x C []) = .ins x C [] :: (Rs.map .has ++ List.replicate (n - Rs.length) .no) := by
    have : n + 1 - (Any :: Rs).length = n - Rs.length := by rw [List.length_cons]; omega
    rw [this]
    rfl
  rw [es] at o2
  refine h F H _ _ ⟨Ex.refl F, e1, e.trans e1, fun _ h => .inl h⟩ o2 ⟨fun env F' H' σ' ⟨k, rest, ee⟩ g _ o' => ?_, fun _ _ _ _ z => z.elim, fun _ _ _ _ z => z.elim, fun _ _ _ _ z => z.elim⟩
  obtain ⟨dx', fs, _, h2, h3, _, h5⟩ := o'.ins 0 x C fr (by rw [ee]; rfl)
  exact hq k F' H' dx' fs g h3 h2 h5
theorem evr_make {C CE : Addr} {S : List Pr → Prop → List (Str × Pr) → Prop} {env : List Sl} {Rs : List Pr} {ok : Prop} {fr : List (Str × Pr)} {tr : TA} {E : XK} (h : EvAs tr env Rs) (hs : S Rs ok fr) (hk : ok) : EvR (tMake C (Fi C CE S) [] E tr) env (PIns C fr) := fun H0 F H σ o e Q q =>
  h H0 F H σ o e _ fun vs F1 H1 g1 r1 x dx hx hdx hne => ⟨x, dx, vs, Rs, ok, fr, F1, H1, by rw [List.append_nil], upd_same, hx, hs, g1.s, (Ex.new hdx).trans (Ex.new (by rw [upd_ne (Ne.symm hne)]; exact hx)), r1,
    fun _ F' H' dx' fs g hF hH hFr => ⟨rfl, q (.ref x) (upd F' x (.ins C dx' fs)) H' (g1.trans (g.freeze hF hx hH)) ⟨x, dx', fs, rfl, upd_same, FrOk.up (Ex.new hF) hFr⟩⟩, fun no => absurd hk no⟩
/-! ### errors -/
/-- the promise of a def that raises where ok fails -/
def Fx (CE : Addr) (S : List Pr → Prop → Pr → Prop) : Sp := fun vs H Q E => ∃ (Rs : List Pr) (ok : Prop) (R : Pr) (F : Hp), S Rs ok R ∧ Ex F H ∧ AllP vs Rs F ∧ (ok → ∀ v F' H', Gr F H F' H' → R.p v F' → Q v H') ∧
  (¬ ok → ∀ F' H' d (k : Int) u, Gr F H F' H' → H' d = some (.xd (badD (.int k) u)) → E (.ref CE) (some d) H')
theorem Fx.len {CE : Addr} {S : List Pr → Prop → Pr → Prop} {n : Nat} (h : ∀ Rs ok R, S Rs ok R → Rs.length = n) {vs : List V} {H : Hp} {Q : VK} {E : XK} (q : Fx CE S vs H Q E) : vs.length = n := by
  obtain ⟨Rs, ok, R, F, s, _, a, _⟩ := q
  rw [a.len, h Rs ok R s]
section
variable {F0 H0 : Hp} {u : TS} {env : List Sl} {P : Po} {tr : TA} {R : Pr} {Rs : List Pr} {CE : Addr} {E : XK} {k : Int}
/-- what an error may be, from (F0, H0) on -/
def XOk (F0 H0 : Hp) (CE : Addr) (E : XK) : Prop := ∀ F' H' d (k : Int) u, Gr F0 H0 F' H' → H' d = some (.xd (badD (.int k) u)) → E (.ref CE) (some d) H'
theorem se_raiseBad (h : EvAs tr env [D (.int k), R]) (hE : XOk F0 H0 CE E) : SE F0 H0 (tRaiseBad CE (fun cls d _ H => E cls d H) tr) env P := fun F H σ D g o m =>
  h H0 F H σ o g.h _ fun vs F1 H1 g1 r1 => by
    obtain ⟨v, u, rfl, rv⟩ : ∃ v u, vs = [v, u] ∧ v = .int k := by
      have hl := r1.len
      match vs, hl, r1 with
      | [v, u], _, r1 => exact ⟨v, u, rfl, dn_int r1.1⟩
    subst rv
    exact ⟨.int k, u, rfl, fun d hd => hE F1 _ d k u ((g.trans g1).up (Ex.new hd)) upd_same⟩
theorem se_dropX {S : List Pr → Prop → Pr → Prop} {ok : Prop} (h : EvAs tr env Rs) (hs : S Rs ok R) (hE : ¬ ok → XOk F0 H0 CE E) (hn : ok → P.nx env) : SE F0 H0 (tDrop (tCall (Fx CE S) [] E tr)) env P := fun F H σ D g o m =>
  h H0 F H σ o g.h _ fun vs F1 H1 g1 r1 => ⟨Rs, ok, R, F1, hs, g1.s, by rw [List.append_nil]; exact r1, fun k v F' H' g' r => m.nx env F' H' σ (hn k) ((g.trans g1).trans g') (g1.f.trans g'.f) ((o.gr g1).gr g'),
    fun k F' H' d c u g' hd => hE k F' H' d c u ((g.trans g1).trans g') hd⟩
/-- a def's body that may raise -/
theorem se_bodyX {F H : Hp} {Rs : List Pr} {R : Pr} {ok : Prop} {vs : List V} {N : List Str} {t : TS} {Q : VK} {n : Nat} (hn : N.length = n) (e : Ex F H) (ha : AllP vs Rs F) (hq : ok → ∀ v F' H', Gr F H F' H' → R.p v F' → Q v H')
    (h : SE F H t (Rs.map .has ++ List.replicate (n - Rs.length) .no) { nx := fun _ => ok ∧ ∀ F, R.p .non F, rt := ⟨fun v F => ok ∧ R.p v F, fun e ⟨k, r⟩ => ⟨k, R.up e r⟩⟩ }) : t { nx := fun _ H' => Q .non H', rt := Q } (L2.start N vs) H :=
  h F H _ _ (Gr.refl e) (ok_start0 hn e ha) ⟨fun _ F' H' _ ⟨k, r⟩ g _ _ => hq k _ F' H' g (r F'), fun v F' H' g ⟨k, r⟩ => hq k v F' H' g r, fun _ _ _ _ z => z.elim, fun _ _ _ _ z => z.elim⟩
end
end Fz
namespace L2
open PySem PySem.Spec PyProof.Rows
/-! ### C(e, ..) within a try -/
def tMakeS (C : Addr) (sp : Sp) (E : St → XK) (t : TA) : TE := fun σ H Q => t σ H fun vs H1 => ∀ x dx, H1 x = none → H1 dx = none → dx ≠ x →
  sp (.ref x :: vs) (upd (upd H1 dx (.own x)) x (.ins C dx [])) (fun v H2 => v = .non ∧ Q (.ref x) H2) (E σ)
section
variable {X : Cx} {CX : CXT} {k : Nat} {f C : Addr} {fd : FuncData} {ps : List Str} {sp : Sp} {E : St → XK} {x : Str} {p pos : Pos} {e : Expr} {es : List Expr} {t : TA}
theorem run_makeS {pins : List (Addr × Obj)} {σ : St} {H : Hp} {s : Shared} {Q : VK} {us : List Value} {vs : List V} (M : Mk X.K C f) (F : FnOk X.prog X.w X.K X.mg X.base CX k f fd ps sp) (hr : Room (k + 1) X.A) (hb : Binds X.K fd ps [])
    (hx : PassesAt CX X σ (E σ)) (I : Inv X pins σ H s) (r : Vals vs us)
    (h : ∀ x dx, H x = none → H dx = none → dx ≠ x → sp (.ref x :: vs) (upd (upd H dx (.own x)) x (.ins C dx [])) (fun v H2 => v = .non ∧ Q (.ref x) H2) (E σ)) :
    wpAny (model X.prog X.w) X.A (call (.ref C) us) (EP X pins σ Q) X.xe s := by
  have hq := h (s.heap.objs.size + 1) s.heap.objs.size (I.hok.fresh (Nat.le_succ _)) (I.hok.fresh (Nat.le_refl _)) (Nat.ne_of_lt (Nat.lt_succ_self _))
  have I2 := Inv.made (C := C) I
  have r2 : Vals (V.ref (s.heap.objs.size + 1) :: vs) (Value.ref (s.heap.objs.size + 1) :: us) := .cons rfl r
  have hl : (Value.ref (s.heap.objs.size + 1) :: us).length = ps.length := by
    have e := r2.length
    rw [F.len _ _ _ _ hq] at e
    exact e.symm
  have b := hb _ (Value.ref (s.heap.objs.size + 1) :: us) I2.kIn (by rw [List.append_nil]; exact hl)
  rw [List.append_nil] at b
  refine wpAny_call (make_map (f := f) I.kIn M.makes M.init (beq_iff_eq.mp M.fn) (codeAny_mono (F.run _ X.stack _ _ ⟨Value.ref (s.heap.objs.size + 1) :: us, []⟩ (Value.ref (s.heap.objs.size + 1) :: us) _ _ (E σ) (hr.make C us [])
    (I2.env0.make C us []) b r2 hq) fun r s' hq' => ?_))
  cases r with
  | error e => exact hx pins _ _ e s' I2 hq'
  | ok fl =>
    cases fl with
    | ret u =>
      obtain ⟨v, H', I3, rv, ev, q3⟩ := I2.after hq'
      subst ev
      exact ⟨rv, ⟨V.ref (s.heap.objs.size + 1), H', I3, rfl, q3⟩⟩
    | next => exact False.elim hq'
    | brk => exact False.elim hq'
    | cont => exact False.elim hq'
theorem pe_makeS (M : Mk X.K C f) (F : FnOk X.prog X.w X.K X.mg X.base CX k f fd ps sp) (hr : Room (k + 1) X.A) (hg : Gl X x) (hm : X.mg x = some (.ref C)) (hb : Binds X.K fd ps []) (hx : ∀ σ, PassesAt CX X σ (E σ))
    (ha : PA X (e :: es) t) (hdb : (x == ("__debug__" : Str)) = false := by decide) (he : starEach (e :: es) X.env = (false, eval e X.env) :: starEach es X.env := by rfl) (hpl : (backTo pos (starEach es X.env)).any (·.1) = false := by rfl) :
    PE X (.Call (.Name x p) (e :: es) [] pos) (tMakeS C sp E t) := by
  refine ⟨fun pins s σ H Q I h => ?_⟩
  refine wpAny_Call_Name_kw (ld_glob I hg hm ?_ hdb)
  refine PySem.W.callWith_K (h₀ := X.base) I.ok.mod.kin M.kp (thn (ha.run pos pins s σ H _ I h) fun us s1 ⟨vs, H1, I1, r, q⟩ => ⟨I1.kIn, ?_⟩) he hpl
  exact run_makeS M F hr hb (hx σ) I1 r q
end
/-! ### f(k=e), one parameter -/
section
variable {X : Cx} {CX : CXT} {k : Nat} {f : Addr} {fd : FuncData} {ps : List Str} {sp : Sp} {E : XK} {x kn : Str} {p pos kpos : Pos} {e : Expr} {te : TE}
def tCall1 (sp : Sp) (E : XK) (te : TE) : TE := fun σ H Q => tCons te tNil σ H fun vs H1 => sp vs H1 Q E
theorem pe_call1K (F : FnOk X.prog X.w X.K X.mg X.base CX k f fd ps sp) (hr : Room k X.A) (hg : Gl X x) (hm : X.mg x = some (.ref f)) (hk : PySem.W.keepIn X.K (.ref f) = true) (h1 : ps.length = 1) (hb : ∀ (s : Shared) (w : Value), BindsTo s fd ⟨[], [(kn, w)]⟩ (ps.zip [w])) (hx : Passes CX X E)
    (ha : PE X e te) (hdb : (x == ("__debug__" : Str)) = false := by decide) (hall : (backToKw pos (keywordEach [⟨some kn, e, kpos⟩] X.env)).all (·.1.isSome) = true := by rfl) (hks : (backToKw pos (keywordEach [⟨some kn, e, kpos⟩] X.env)).filterMap (·.1) = [kn] := by rfl)
    (hpl : ((backTo pos (starEach [] X.env)).any (·.1) || (backToKw pos (keywordEach [⟨some kn, e, kpos⟩] X.env)).any (·.1.isNone)) = false := by rfl) :
    PE X (.Call (.Name x p) [] [⟨some kn, e, kpos⟩] pos) (tCall1 sp E te) := by
  refine ⟨fun pins s σ H Q I h => ?_⟩
  refine wpAny_Call_Name_kw (ld_glob I hg hm ?_ hdb)
  refine PySem.W.callWith_KW0 (h₀ := X.base) I.ok.mod.kin hk hall ?_ hpl
  have hkw : PK X [⟨some kn, e, kpos⟩] (tCons te tNil) := pk_cons ha pk_nil
  refine thn (hkw.run pos pins s σ H _ I h) fun ws s2 ⟨zs, H2, I2, rz, q2⟩ => ⟨I2.kIn, ?_⟩
  rw [hks]
  have hl : zs.length = 1 := by rw [← h1]; exact F.len _ _ _ _ q2
  have hw : ws.length = 1 := by rw [← hl]; exact rz.length.symm
  obtain ⟨wv, rfl⟩ : ∃ wv, ws = [wv] := List.length_eq_one_iff.mp hw
  show wpAny _ _ (call (.ref f) [] [(kn, wv)]) _ _ _
  refine wpAny_call (codeAny_mono (F.run X.A X.stack s2 H2 ⟨[], [(kn, wv)]⟩ [wv] zs Q E hr I2.env0 (hb s2 wv) rz q2) fun r s' hq => ?_)
  cases r with
  | error e => exact hx pins σ H2 s2 e s' I2 hq
  | ok fl =>
    cases fl with
    | ret u => exact I2.after hq
    | next => exact False.elim hq
    | brk => exact False.elim hq
    | cont => exact False.elim hq
end
end L2
namespace Fz
open PySem L2
theorem evr_call1 {S : List Pr → Pr → Prop} {env : List Sl} {R1 R : Pr} {te : TE} {E : XK} (h : EvR te env R1) (hs : S [R1] R) : EvR (tCall1 (Fs S) E te) env R := fun H0 F H σ o e Q q =>
  h H0 F H σ o e _ fun v F1 H1 g1 r1 => ⟨[R1], R, F1, hs, g1.s, ⟨r1, True.intro⟩, fun v F' H' g r => q v F' H' (g1.trans g) r⟩
/-! ### sorted -/
theorem evn_srt {env : List Sl} {te : TE} {K : PySem.W.Frag} {ds : List PyData} (h : EvR te env (D (.list ds)) ∨ EvR te env (D (.tuple ds))) (hal : PySem.W.AllAlike ds) (hk : PySem.W.Sortable ds) (hd : ∀ d ∈ ds, d.depth ≤ 2) :
    EvN (tCB (rSrt K) (tCons te tNil)) env (ds.mergeSort (PySem.W.dataLe false id)) := fun H0 F H σ o e Q q => by
  have key : ∀ (a : Addr) (xs : List V) (F1 H1 : Hp), Gr F H F1 H1 → (H1 a = some (.lst xs) ∨ H1 a = some (.tup xs)) → DnA F1 xs ds → rSrt K [.ref a] H1 Q := fun a xs F1 H1 g1 ha hx => by
    have hl := hx.len
    have e1 : (xs.zip ds).map (·.1) = xs := List.map_fst_zip (by omega)
    have e2 : (xs.zip ds).map (·.2) = ds := List.map_snd_zip (by omega)
    have hm : ∀ b ∈ xs.zip ds, Dn F1 b.1 b.2 := fun b hb => by
      obtain ⟨i, hi⟩ := List.mem_iff_getElem?.mp hb
      rw [List.getElem?_zip_eq_some] at hi
      obtain ⟨v, hv, dv⟩ := hx.get hi.2
      rw [hi.1] at hv
      cases hv
      exact dv
    refine ⟨a, xs.zip ds, rfl, ?_, fun b hb => (Dn.up g1.s _ _ (hm b hb)).dp, by rw [e2]; exact hal, by rw [e2]; exact hk, fun b hb => hd _ (List.of_mem_zip hb).2, fun p hp => ?_⟩
    · rw [e1]
      rcases ha with z | z
      · exact .inl (SqL.of z)
      · exact .inr (SqT.of z)
    · have e3 : ((xs.zip ds).mergeSort (PySem.W.dataLe false (·.2))).map (·.2) = ds.mergeSort (PySem.W.dataLe false id) := by
        rw [List.map_mergeSort (r := PySem.W.dataLe false (·.2)) (s := PySem.W.dataLe false id) (f := (·.2)) (l := xs.zip ds) (fun a _ b _ => rfl), e2]
      refine q p _ F1 _ (g1.trans (Gr.newO g1.s hp)) (g1.h.free hp) (g1.s.free hp) upd_same ?_
      rw [← e3]
      have all : ∀ l : List (V × PyData), (∀ b ∈ l, Dn F1 b.1 b.2) → DnA F1 (l.map (·.1)) (l.map (·.2)) := by
        intro l
        induction l with
        | nil => exact fun _ => .nil
        | cons b l ih => exact fun hb => .cons (hb b List.mem_cons_self) (ih fun c hc => hb c (List.mem_cons_of_mem _ hc))
      exact all _ fun b hb => hm b (List.mem_mergeSort.mp hb)
  rcases h with h | h
  · exact h H0 F H σ o e _ fun v F1 H1 g1 r1 => by
      cases r1 with
      | lst h1 h2 => exact key _ _ F1 H1 g1 (.inl (g1.s _ _ h1)) h2
  · exact h H0 F H σ o e _ fun v F1 H1 g1 r1 => by
      cases r1 with
      | tup h1 h2 => exact key _ _ F1 H1 g1 (.inr (g1.s _ _ h1)) h2
end Fz

/-! text BmMo -/
set_option Elab.async false
set_option linter.all false
set_option maxRecDepth 100000
set_option maxHeartbeats 4000000
namespace Fz
open PySem L2 ClX
section
variable {F0 H0 : Hp} {t u w : TS} {env : List Sl} {P : Po} {te ta tb tl : TE} {tr : TA} {tt : TT} {R : Pr} {Rs : List Pr} {ds : List PyData} {d : PyData} {i j k : Nat} {b : Bool} {K : PySem.W.Frag} {C : Addr} {fr : List (Str × Pr)} {f : Str} {E : XK}
/-- for a, b in enumerate(xs) -/
theorem se_enum {a b : Nat} (h : EvR tl env (Fz.D (.list ds))) (Iv : Nat → List Sl → Prop) (h0 : Iv 0 env)
    (hs : ∀ i d env', ds[i]? = some d → Iv i env' → SE F0 H0 t ((env'.set a (.has (Fz.D (.int (i : Int))))).set b (.has (Fz.D d))) { P with nx := Iv (i + 1), ct := Iv (i + 1), bk := P.nx })
    (hd : ∀ env', Iv ds.length env' → P.nx env') : SE F0 H0 (tFor (iEnum K (tCons tl tNil)) (gTup K 2 (gCons (gName a) (gCons (gName b) gNil))) t) env P := fun F H σ D g o m =>
  h H0 F H σ o g.h _ fun v F1 H1 g1 r1 => by
    cases r1 with
    | @lst A vs _ q1 q2 =>
      have m1 := m.up g1.f
      have hat : ∀ i σ' H', LpI F0 H0 F1 Iv i σ' H' → SqL K H' A vs := fun i σ' H' pp => by
        obtain ⟨env', F', _, g', _, e'⟩ := pp
        exact SqL.of (g'.s _ _ (e' _ _ q1))
      have hu : ∀ i σ' H', LpI F0 H0 F1 Iv i σ' H' → H' A = some (.lst vs) := fun i σ' H' pp => by
        obtain ⟨env', F', _, g', _, e'⟩ := pp
        exact g'.s _ _ (e' _ _ q1)
      refine ⟨A, vs, rfl, SqL.of (g1.s _ _ q1), fun i m σ' H' => m = vs.length - i ∧ i ≤ vs.length ∧ LpI F0 H0 F1 Iv i σ' H', ⟨vs.length, by simp, Nat.zero_le _, env, F1, h0, g.trans g1, o.gr g1, Ex.refl _⟩, ?_⟩
      rintro i m' σ' H' ⟨rfl, hi, pp⟩
      by_cases hlt : i < vs.length
      · refine .inr ⟨⟨vs, vs[i], hat i σ' H' pp, by simp [hlt]⟩, LpI F0 H0 F1 Iv (i + 1), fun σ2 H2 p' => ⟨vs.length - (i + 1), by omega, rfl, hlt, p'⟩, fun x H2 y => ?_⟩
        obtain ⟨T, z, rfl, hT, rfl, hz⟩ := y
        have hz2 := hz vs (hat i σ' H' pp)
        obtain ⟨env', F', iv, g', o', e'⟩ := pp
        obtain ⟨d, hd', dv⟩ := q2.getv hz2
        have o2 := o'.gr (Gr.newO (o := .tup [.int (i : Int), z]) o'.ex hT)
        have g2 := g'.up (Ex.new (o := .tup [.int (i : Int), z]) hT)
        refine ⟨T, [.int (i : Int), z], rfl, SqT.of upd_same, rfl, .int (i : Int), [z], rfl, z, [], rfl, rfl, ?_⟩
        exact hs i d env' hd' iv F' _ _ _ g2 ((o2.setH (R := Fz.D (.int (i : Int))) (.int _)).setH (Dn.up e' _ _ dv)) (lp_body m1 e')
      · have e : i = vs.length := by omega
        subst e
        have q := hat _ σ' H' pp
        obtain ⟨env', F', iv, g', o', e'⟩ := pp
        rw [q2.len] at iv
        exact .inl ⟨⟨vs, q, Nat.le_refl _⟩, m1.nx env' F' H' σ' (hd env' iv) g' e' o'⟩
/-- [y for x in rows for y in x] -/
theorem evn_lc2 {j j1 : Nat} {rows : List (List PyData)} (hj : j ≠ j1) (hl : j < env.length) (hl1 : j1 < env.length) (h : EvR tl env (Fz.D (.list (rows.map .tuple)))) (hz : rows.flatten.length ≤ 40000) :
    EvN (tLc2 (iList K tl) (gName j) tYes (iTup K (tVar j)) (gName j1) tYes (tVar j1) [j, j1] [j1]) env rows.flatten := fun H0 F H σ o e Q q =>
  h H0 F H σ o e _ fun v F1 H1 g1 r1 => by
    cases r1 with
    | @lst A vs _ q1 q2 =>
      have hlen : vs.length = rows.length := by rw [q2.len, List.length_map]
      have hsl : σ.length = env.length := o.len.symm
      refine ⟨A, rfl, ⟨vs, SqL.of (g1.s _ _ q1)⟩, fun D hD => ⟨fun i m H' => m = vs.length - i ∧ i ≤ vs.length ∧ LcP F1 H1 D (fun i => (rows.take i).flatten) i H', ⟨vs.length, by simp, Nat.zero_le _, lc_start g1.s hD rfl⟩, ?_⟩⟩
      rintro i m' H' ⟨rfl, hi, pp⟩
      have hA : H' A = some (.lst vs) := by
        obtain ⟨F2, acc, g2, _⟩ := pp
        exact g2.h _ _ (g1.s _ _ q1)
      by_cases hlt : i < vs.length
      · refine .inr ⟨⟨vs, vs[i], SqL.of hA, by simp [hlt]⟩, LcP F1 H1 D (fun i => (rows.take i).flatten) (i + 1), fun H2 p' => ⟨vs.length - (i + 1), by omega, rfl, hlt, p'⟩, fun x H2 y => ?_⟩
        obtain ⟨rfl, y⟩ := y
        have hx := y vs (SqL.of hA)
        obtain ⟨d, hd', dv⟩ := q2.getv hx
        rw [List.getElem?_map] at hd'
        cases er : rows[i]? with
        | none => rw [er] at hd'; cases hd'
        | some row =>
        rw [er] at hd'
        have ed : PyData.tuple row = d := Option.some.inj hd'
        subst ed
        cases dv with
        | @tup B ws _ b1 b2 =>
        have et : rows.take (i + 1) = rows.take i ++ [row] := by
          obtain ⟨hl', e'⟩ := List.getElem?_eq_some_iff.mp er
          rw [List.take_succ_eq_append_getElem hl', e']
        have ef : (rows.take (i + 1)).flatten = (rows.take i).flatten ++ row := by rw [et, List.flatten_append]; simp
        have hfl : (rows.take i).flatten.length + row.length ≤ 40000 := by
          have h1 : (rows.take (i + 1)).flatten.length ≤ rows.flatten.length := by
            have : rows.flatten = (rows.take (i + 1)).flatten ++ (rows.drop (i + 1)).flatten := by rw [← List.flatten_append, List.take_append_drop]
            rw [this, List.length_append]
            omega
          rw [ef, List.length_append] at h1
          omega
        refine ⟨?_, ?_⟩
        · show wipe ((wipe σ [j, j1]).set j (some (.ref B))) [j, j1] = wipe σ [j, j1]
          show ((((σ.set j1 none).set j none).set j (some (.ref B))).set j1 none).set j none = (σ.set j1 none).set j none
          rw [List.set_set, List.set_comm _ _ hj, List.set_set, List.set_set]
        · unfold tYes
          dsimp only
          rw [if_pos rfl]
          refine ⟨.ref B, by
            show ((wipe σ [j, j1]).set j (some (.ref B)))[j]? = _
            rw [List.getElem?_set_self]
            show j < ((σ.set j1 none).set j none).length
            rw [List.length_set, List.length_set]
            omega, B, rfl, ⟨ws, SqT.of ?_⟩, fun k m H3 => m = ws.length - k ∧ k ≤ ws.length ∧ LcP F1 H1 D (fun k => (rows.take i).flatten ++ row.take k) k H3, ⟨ws.length, by simp, Nat.zero_le _, ?_⟩, ?_⟩
          · obtain ⟨F2, acc, g2, _⟩ := pp
            exact g2.h _ _ (g1.s _ _ b1)
          · obtain ⟨F2, acc, g2, f2, h2, d2⟩ := pp
            exact ⟨F2, acc, g2, f2, h2, by simpa using d2⟩
          · rintro k m3 H3 ⟨rfl, hk, pk⟩
            have hB : H3 B = some (.tup ws) := by
              obtain ⟨F2, acc, g2, _⟩ := pk
              exact g2.h _ _ (g1.s _ _ b1)
            by_cases hkl : k < ws.length
            · refine .inr ⟨⟨ws, ws[k], SqT.of hB, by simp [hkl]⟩, LcP F1 H1 D (fun k => (rows.take i).flatten ++ row.take k) (k + 1), fun H4 p' => ⟨ws.length - (k + 1), by omega, rfl, hkl, p'⟩, fun x H4 y => ?_⟩
              obtain ⟨rfl, y⟩ := y
              have hx := y ws (SqT.of hB)
              obtain ⟨d, hd2, dv⟩ := b2.getv hx
              obtain ⟨F2, acc, g2, f2, h2, d2⟩ := pk
              have er2 : row.take (k + 1) = row.take k ++ [d] := by
                obtain ⟨hl', e'⟩ := List.getElem?_eq_some_iff.mp hd2
                rw [List.take_succ_eq_append_getElem hl', e']
              refine ⟨?_, ?_⟩
              · show (((((wipe σ [j, j1]).set j (some (.ref B))).set j1 none).set j1 (some x)).set j1 none) = ((wipe σ [j, j1]).set j (some (.ref B))).set j1 none
                rw [List.set_set, List.set_set]
              · rw [if_pos rfl]
                refine ⟨x, by
                  show ((((wipe σ [j, j1]).set j (some (.ref B))).set j1 none).set j1 (some x))[j1]? = _
                  rw [List.getElem?_set_self]
                  show j1 < ((((σ.set j1 none).set j none).set j _).set j1 none).length
                  simp only [List.length_set]
                  omega, acc, h2, by rw [d2.len, List.length_append, List.length_take, sizeLine_eq]; omega, F2, acc ++ [x], g2.put f2 hD, f2, upd_same, ?_⟩
                show DnA F2 (acc ++ [x]) ((rows.take i).flatten ++ row.take (k + 1))
                rw [er2, ← List.append_assoc]
                exact d2.app (.cons (Dn.up g2.f _ _ dv) .nil)
            · have e3 : k = ws.length := by omega
              subst e3
              refine .inl ⟨⟨ws, SqT.of hB, Nat.le_refl _⟩, ?_⟩
              obtain ⟨F2, acc, g2, f2, h2, d2⟩ := pk
              refine ⟨F2, acc, g2, f2, h2, ?_⟩
              show DnA F2 acc (rows.take (i + 1)).flatten
              rw [ef]
              have d2' : DnA F2 acc ((rows.take i).flatten ++ row.take ws.length) := d2
              rwa [b2.len, List.take_length] at d2'
      · have e3 : i = vs.length := by omega
        subst e3
        refine .inl ⟨⟨vs, SqL.of hA, Nat.le_refl _⟩, ?_⟩
        obtain ⟨F2, acc, g2, f2, h2, d2⟩ := pp
        have d2' : DnA F2 acc ((rows.take vs.length).flatten) := d2
        rw [hlen, List.take_length] at d2'
        exact q D acc F2 H' (g1.trans g2) (g1.h.free hD) f2 h2 d2'
/-- a class's constant -/
theorem evr_cval {mc u : Value} {v : V} (r : CRead K C mc) (c : CVal K C mc f v u) (hd : ∀ F, Dn F v d) : EvR (tCVal K (tC (.ref C)) f) env (Fz.D d) := fun H0 F H σ o e Q q => ⟨C, mc, v, u, rfl, r, c, q v F H (Gr.refl o.ex) (hd F)⟩
/-- len(set(xs)) -/
theorem evr_lenSet {ns : List Int} (h : EvR te env (Fz.D (.tuple (ns.map .int)))) (hz : ns.length ≤ 1000) : EvR (Bm.tLenSetI K te) env PZ := fun H0 F H σ o e Q q =>
  h H0 F H σ o e _ fun v F1 H1 g1 r1 => by
    cases r1 with
    | tup h1 h2 =>
      have e2 := h2.toInts
      subst e2
      exact ⟨_, ns, rfl, SqT.of (g1.s _ _ h1), hz, fun c => q _ F1 H1 g1 ⟨(c : Int), True.intro, .int _⟩⟩
/-- the distinct ones, from the left -/
def dset (l : List Int) : List Int := l.foldl (fun s x => if x ∈ s then s else s ++ [x]) []
theorem dset_snoc (l : List Int) (x : Int) : dset (l ++ [x]) = if x ∈ dset l then dset l else dset l ++ [x] := by
  unfold dset
  rw [List.foldl_append]
  rfl
theorem dset_len (l : List Int) : (dset l).length ≤ l.length := by
  have key : ∀ (l s : List Int), (l.foldl (fun s x => if x ∈ s then s else s ++ [x]) s).length ≤ s.length + l.length := by
    intro l
    induction l with
    | nil => intro s; simp
    | cons x l ih =>
      intro s
      rw [List.foldl_cons]
      refine Nat.le_trans (ih _) ?_
      split
      · simp
      · simp
        omega
  have := key l []
  rw [List.length_nil, Nat.zero_add] at this
  exact this
/-- len({e for x in xs}), ints -/
theorem evr_lenSc {β : Type} (enc : β → PyData) (fv : β → Int) {xs : List β} {wd : World} (h : EvR tl env (Fz.D (.tuple (xs.map enc)))) (hz : xs.length ≤ 1000) (he : ∀ x ∈ xs, EvR te (env.set j (.has (Fz.D (enc x)))) (Fz.D (.int (fv x)))) :
    EvR (tCB (Bm.rLenSO wd) (tCons (Bm.tScI wd (iTup K tl) (gName j) tYes te [j]) tNil)) env (Fz.D (.int ((dset (xs.map fv)).length : Int))) := fun H0 F H σ o e Q q =>
  h H0 F H σ o e _ fun v F1 H1 g1 r1 => by
    cases r1 with
    | @tup A vs _ q1 q2 =>
      have hlen : vs.length = xs.length := by rw [q2.len, List.length_map]
      refine ⟨A, rfl, ⟨vs, SqT.of (g1.s _ _ q1)⟩, fun D hD => ⟨fun i m H' => m = vs.length - i ∧ i ≤ vs.length ∧ ∃ (F2 : Hp) (S : Int → Bool), Gr F1 H1 F2 H' ∧ F2 D = none ∧ H' D = some (SetO wd D S (dset ((xs.take i).map fv)).length) ∧ ∀ k, S k = decide (k ∈ dset ((xs.take i).map fv)),
        ⟨vs.length, by simp, Nat.zero_le _, F1, fun _ => false, Gr.newO g1.s hD, g1.s.free hD, upd_same, fun k => by simp [dset]⟩, ?_⟩⟩
      rintro i m' H' ⟨rfl, hi, F2, S, g2, f2, h2, hS⟩
      have hA : H' A = some (.tup vs) := g2.h _ _ (g1.s _ _ q1)
      by_cases hlt : i < vs.length
      · refine .inr ⟨⟨vs, vs[i], SqT.of hA, by simp [hlt]⟩, fun H2 => ∃ (F2 : Hp) (S : Int → Bool), Gr F1 H1 F2 H2 ∧ F2 D = none ∧ H2 D = some (SetO wd D S (dset ((xs.take (i + 1)).map fv)).length) ∧ ∀ k, S k = decide (k ∈ dset ((xs.take (i + 1)).map fv)), fun H2 p' => ⟨vs.length - (i + 1), by omega, rfl, hlt, p'⟩, fun x H2 y => ?_⟩
        obtain ⟨rfl, y⟩ := y
        have hx := y vs (SqT.of hA)
        obtain ⟨d, hd', dv⟩ := q2.getv hx
        rw [List.getElem?_map] at hd'
        cases er : xs[i]? with
        | none => rw [er] at hd'; cases hd'
        | some z =>
        rw [er] at hd'
        have ed : enc z = d := Option.some.inj hd'
        subst ed
        have mz := List.mem_of_getElem? er
        have es : (wipe σ [j]).set j (some x) = σ.set j (some x) := by
          show (σ.set j none).set j (some x) = _
          rw [List.set_set]
        have es2 : wipe ((wipe σ [j]).set j (some x)) [j] = wipe σ [j] := by
          rw [es]
          show (σ.set j (some x)).set j none = σ.set j none
          rw [List.set_set]
        refine ⟨es2, ?_⟩
        unfold tYes
        dsimp only
        rw [if_pos rfl]
        have o2 : Ok H0 F2 H2 (σ.set j (some x)) (env.set j (.has (Fz.D (enc z)))) := ((o.gr g1).gr g2).setH (R := Fz.D (enc z)) (Dn.up g2.f _ _ dv)
        show te ((wipe σ [j]).set j (some x)) H2 _
        rw [es]
        refine he z mz H0 F2 H2 _ o2 ((e.trans g1.h).trans g2.h) _ fun yv F4 H4 g4 r4 => ?_
        have h4 : H4 D = some (SetO wd D S (dset ((xs.take i).map fv)).length) := g4.h _ _ h2
        have f4 : F4 D = none := g4.keep f2 (by rw [h2]; exact fun z => nomatch z)
        have et : xs.take (i + 1) = xs.take i ++ [z] := by
          obtain ⟨hl', e'⟩ := List.getElem?_eq_some_iff.mp er
          rw [List.take_succ_eq_append_getElem hl', e']
        have hdl := dset_len ((xs.take i).map fv)
        rw [List.length_map, List.length_take] at hdl
        refine ⟨fv z, S, (dset ((xs.take i).map fv)).length, dn_int r4, h4, ?_, F4, fun j => S j || decide (j = fv z), (g2.trans g4).put f4 hD, f4, ?_, fun k => ?_⟩
        · have : (2000 : Nat) ≤ scanBound := by decide
          omega
        · rw [upd_same, et, List.map_append]
          show some (SetO wd D _ _) = some (SetO wd D _ ((dset (((xs.take i).map fv) ++ [fv z])).length))
          rw [dset_snoc, hS]
          by_cases hm : fv z ∈ dset ((xs.take i).map fv)
          · rw [if_pos hm, if_pos (decide_eq_true hm)]
          · rw [if_neg hm, if_neg (by rw [decide_eq_false hm]; exact Bool.false_ne_true), List.length_append]
            rfl
        · rw [et, List.map_append]
          show (S k || decide (k = fv z)) = decide (k ∈ dset (((xs.take i).map fv) ++ [fv z]))
          rw [dset_snoc, hS k]
          by_cases hm : fv z ∈ dset ((xs.take i).map fv)
          · rw [if_pos hm]
            by_cases hk : k = fv z
            · rw [hk, decide_eq_true hm]; simp
            · rw [decide_eq_false hk]; simp
          · rw [if_neg hm, Bool.eq_iff_iff]
            simp
      · have e3 : i = vs.length := by omega
        subst e3
        refine .inl ⟨⟨vs, SqT.of hA, Nat.le_refl _⟩, ?_⟩
        rw [hlen, List.take_length] at h2
        exact ⟨D, S, _, rfl, h2, q _ F2 H' (g1.trans g2) (.int _)⟩
end
end Fz

/-! text BmTc -/
set_option Elab.async false
set_option linter.all false
set_option maxRecDepth 100000
set_option maxHeartbeats 4000000
namespace Bm
open PySem PySem.Spec PyProof.Rows L2 Fz ClX
/-- a def that may raise and keeps its promise -/
def Calx (P : Program) (w : World) (K : PySem.W.Frag) (mg : Str → Option Value) (base : Heap) (x : Str) (k : Nat) (ps : List Str) (sp : Sp) : Prop :=
  ∃ (f : Addr) (fd : FuncData), mg x = some (.ref f) ∧ PySem.W.keepIn K (.ref f) = true ∧ Binds K fd ps [] ∧ FnOk P w K mg base (L2.CX P w) k f fd ps sp
theorem pe_calx {X : Cx} {E : XK} {x : Str} {k : Nat} {ps : List Str} {sp : Sp} {p pos : Pos} {e : Expr} {es : List Expr} {t : TA} (C : Calx X.prog X.w X.K X.mg X.base x k ps sp) (tk : Takes X fun cls d _ H => E cls d H) (hr : Room k X.A) (ha : PA X (e :: es) t) (hg : Gl X x := by rfl)
    (hdb : (x == ("__debug__" : Str)) = false := by decide) (he : starEach (e :: es) X.env = (false, eval e X.env) :: starEach es X.env := by rfl) (hpl : (backTo pos (starEach es X.env)).any (·.1) = false := by rfl) :
    PE X (.Call (.Name x p) (e :: es) [] pos) (tCall sp [] E t) := by
  obtain ⟨f, fd, hm, hk, hb, hF⟩ := C
  exact pe_call hF hr hg hm hk hb .nil (passes_call tk fun _ _ _ _ h => h) ha hdb he hpl
/-- a def with one parameter, called by its name -/
def Calk (P : Program) (w : World) (K : PySem.W.Frag) (mg : Str → Option Value) (base : Heap) (x kn : Str) (k : Nat) (sp : Sp) : Prop :=
  ∃ (f : Addr) (fd : FuncData), mg x = some (.ref f) ∧ PySem.W.keepIn K (.ref f) = true ∧ (∀ (s : Shared) (w : Value), BindsTo s fd ⟨[], [(kn, w)]⟩ (([kn] : List Str).zip [w])) ∧ FnOk P w K mg base CX0 k f fd [kn] sp
theorem pe_calk {X : Cx} {x kn : Str} {k : Nat} {sp : Sp} {p pos kpos : Pos} {e : Expr} {te : TE} (C : Calk X.prog X.w X.K X.mg X.base x kn k sp) (hr : Room k X.A) (ha : PE X e te) (hg : Gl X x := by rfl)
    (hdb : (x == ("__debug__" : Str)) = false := by decide) (hall : (backToKw pos (keywordEach [⟨some kn, e, kpos⟩] X.env)).all (·.1.isSome) = true := by rfl) (hks : (backToKw pos (keywordEach [⟨some kn, e, kpos⟩] X.env)).filterMap (·.1) = [kn] := by rfl)
    (hpl : ((backTo pos (starEach [] X.env)).any (·.1) || (backToKw pos (keywordEach [⟨some kn, e, kpos⟩] X.env)).any (·.1.isNone)) = false := by rfl) :
    PE X (.Call (.Name x p) [] [⟨some kn, e, kpos⟩] pos) (tCall1 sp E0 te) := by
  obtain ⟨f, fd, hm, hk, hb, hF⟩ := C
  exact pe_call1K hF hr hg hm hk rfl hb pass0 ha hdb hall hks hpl
/-- a method -/
def Calm (P : Program) (w : World) (K : PySem.W.Frag) (mg : Str → Option Value) (base : Heap) (C : Addr) (m : Str) (k : Nat) (ps : List Str) (sp : Sp) : Prop :=
  ∃ (f : Addr) (fd : FuncData), Meth K C m f ∧ Binds K fd ps [] ∧ FnOk P w K mg base CX0 k f fd ps sp
theorem pe_calm {X : Cx} {C : Addr} {m : Str} {k : Nat} {ps : List Str} {sp : Sp} {o e : Expr} {es : List Expr} {ta : TE} {t : TA} {apos pos : Pos} {pl : Sem Bool} (M : Calm X.prog X.w X.K X.mg X.base C m k ps sp) (c : Cls X.K C) (hr : Room k X.A) (he : PE X o ta) (ha : PA X (e :: es) t)
    (hst : starEach (e :: es) X.env = (false, eval e X.env) :: starEach es X.env := by rfl) (hpl : (backTo pos (starEach es X.env)).any (·.1) = false := by rfl)
    (ht : eval (.Call (.Attribute o m apos) (e :: es) [] pos) X.env = (do
      let ov ← eval o X.env
      standAt apos.atName
      let (f, first) ← holding [ov] (getMethod ov m pl)
      callWith pos f first (backTo pos (starEach (e :: es) X.env)) (backToKw pos (keywordEach [] X.env))) := by rfl) :
    PE X (.Call (.Attribute o m apos) (e :: es) [] pos) (tMeth C m sp [] E0 ta t) := by
  obtain ⟨f, fd, hm, hb, hF⟩ := M
  exact pe_meth he c hm hF hr hb .nil pass0 ha hst hpl ht
/-- a class with its __init__ -/
def Cali (CX : CXT) (P : Program) (w : World) (K : PySem.W.Frag) (mg : Str → Option Value) (base : Heap) (x : Str) (C : Addr) (k : Nat) (ps : List Str) (sp : Sp) : Prop :=
  ∃ (f : Addr) (fd : FuncData), mg x = some (.ref C) ∧ Mk K C f ∧ Binds K fd ps [] ∧ FnOk P w K mg base CX k f fd ps sp
theorem pe_cali {X : Cx} {C : Addr} {x : Str} {k : Nat} {ps : List Str} {sp : Sp} {p pos : Pos} {e : Expr} {es : List Expr} {t : TA} (M : Cali CX0 X.prog X.w X.K X.mg X.base x C k ps sp) (hr : Room (k + 1) X.A) (ha : PA X (e :: es) t) (hg : Gl X x := by rfl)
    (hdb : (x == ("__debug__" : Str)) = false := by decide) (he : starEach (e :: es) X.env = (false, eval e X.env) :: starEach es X.env := by rfl) (hpl : (backTo pos (starEach es X.env)).any (·.1) = false := by rfl) :
    PE X (.Call (.Name x p) (e :: es) [] pos) (tMake C sp [] E0 t) := by
  obtain ⟨f, fd, hm, hM, hb, hF⟩ := M
  exact pe_make hM hF hr hg hm hb .nil pass0 ha hdb he hpl
theorem pe_caliS {X : Cx} {C : Addr} {W : WX} {x : Str} {k : Nat} {ps : List Str} {sp : Sp} {p pos : Pos} {e : Expr} {es : List Expr} {t : TA} (M : Cali (L2.CX X.prog X.w) X.prog X.w X.K X.mg X.base x C k ps sp) (tk : Takes X W) (hr : Room (k + 1) X.A) (ha : PA X (e :: es) t) (hg : Gl X x := by rfl)
    (hdb : (x == ("__debug__" : Str)) = false := by decide) (he : starEach (e :: es) X.env = (false, eval e X.env) :: starEach es X.env := by rfl) (hpl : (backTo pos (starEach es X.env)).any (·.1) = false := by rfl) :
    PE X (.Call (.Name x p) (e :: es) [] pos) (tMakeS C sp (WE W) t) := by
  obtain ⟨f, fd, hm, hM, hb, hF⟩ := M
  exact pe_makeS hM hF hr hg hm hb (fun σ => passAt tk σ) ha hdb he hpl
/-- what the written part says of the classes -/
structure Tc (Z : Zt) : Prop where
  clB : Cls Z.K Z.CB
  clS : Cls Z.K Z.CS
  nB : ∀ f ∈ (["strand", "parties", "size", "lone", "_index_of"] : List Str), NoAttr Z.K Z.CB f
  nS : ∀ f ∈ (["kinds", "size", "unlike_pairs", "ends_unlike", "variety"] : List Str), NoAttr Z.K Z.CS f
  mS : ∃ mc, CRead Z.K Z.CS mc ∧ (∃ u, CVal Z.K Z.CS mc "MOST" (.int 24) u) ∧ ∃ u, CVal Z.K Z.CS mc "TOP_KIND" (.int 999) u
  te : PySem.W.exmOne Z.K (.ref Z.CE) (.ref Z.CE) = some true
/-- a strand of kinds ks -/
abbrev frS (ks : List Int) : List (Str × Pr) := [("kinds", D (.tuple (ks.map dI))), ("size", D (dN ks.length)), ("unlike_pairs", PZ), ("ends_unlike", PZ), ("variety", PZ)]
def PStrand (Z : Zt) (ks : List Int) : Pr := PIns Z.CS (frS ks)
/-- a book of it -/
abbrev frB (Z : Zt) (ks : List Int) (rows : List (List Nat)) (ix : List Nat) : List (Str × Pr) := [("strand", PStrand Z ks), ("parties", D (.tuple (rows.map tNs))), ("size", D (dN rows.length)), ("lone", PZ), ("_index_of", D (tNs ix))]
def PBook (Z : Zt) (ks : List Int) (rows : List (List Nat)) (ix : List Nat) : Pr := PIns Z.CB (frB Z ks rows ix)
/-! ### try: told = C(..) except BadBook as e: return ('BadBook', e.rule) -/
section
variable {F0 H0 : Hp} {env : List Sl} {P : Po} {tr : TA} {Rs : List Pr} {i j : Nat} {K : PySem.W.Frag} {C CE : Addr} {fr : List (Str × Pr)} {ok : Prop} {S : List Pr → Prop → List (Str × Pr) → Prop}
abbrev tsBad (CE : Addr) (i : Nat) : Addr → Value → Option Addr → TS := fun a cls d => tRet (tTup (tCons (tC (.str "BadBook")) (tCons (tByBad CE a cls d (tVar i)) tNil)))
theorem se_try {Wout : WX} (ha : EvAs tr env Rs) (hs : S Rs ok fr) (hte : PySem.W.exmOne K (.ref CE) (.ref CE) = some true) (hi : i < env.length) (hok : ok → P.nx (env.set j (.has (PIns C fr))))
    (hrt : ¬ ok → ∀ (k : Int) v F, Dn F v (.tuple [.str "BadBook", .int k]) → P.rt.p v F) :
    SE F0 H0 (fun D σ H => tAsg (tMakeS C (Fi C CE S) (WE (wAs K (.ref CE) i (tsBad CE i) Wout D)) tr) (gName j) D σ H) env P := fun F H σ D g o m =>
  ha H0 F H σ o g.h _ fun vs F1 H1 g1 r1 x dx hx hdx hne => ⟨x, dx, vs, Rs, ok, fr, F1, H1, rfl, upd_same, hx, hs, g1.s, (Ex.new hdx).trans (Ex.new (by rw [upd_ne (Ne.symm hne)]; exact hx)), r1,
    fun k F' H' dx' fs g' hF hH hFr => ⟨rfl, m.nx _ (upd F' x (.ins C dx' fs)) H' _ (hok k) ((g.trans g1).trans (g'.freeze hF hx hH)) ((g1.f.trans g'.f).trans (Ex.new hF)) ((((o.gr g1).gr (g'.freeze hF hx hH))).setH (R := PIns C fr) ⟨x, dx', fs, rfl, upd_same, FrOk.up (Ex.new hF) hFr⟩)⟩,
    fun no F' H' d k u g' hd => ⟨true, hte, fun _ a ha' => by
      have hl : i < σ.length := by rw [← o.len]; exact hi
      refine ⟨.ref a, by rw [List.getElem?_set_self hl], rfl, rfl, d, .int k, u, rfl, hd, by show 2 ≤ sizeLine; decide, fun p hp => ?_⟩
      have gg := ((g.trans g1).trans g').trans (Gr.new (o := .tup [.str "BadBook", .int k]) g'.s hp)
      exact m.rt _ _ _ gg (hrt no k _ _ (.tup upd_same (.cons (.str _) (.cons (.int k) .nil)))), fun q => Bool.noConfusion q⟩⟩
end
end Bm

/-! text BmHb -/
set_option Elab.async false
set_option linter.all false
set_option maxRecDepth 100000
set_option maxHeartbeats 4000000
/-! what the head tells: facts read off the written part by Bools -/
namespace BmH
open PySem PySem.W PySem.Calls PyProof.Rows PySem.BadX Bm
open He (ga ma ba eqO eqO_ok)
/-- BadBook's class object -/
def badC (K : Frag) (C : Addr) : Bool := match K.lookup C with
  | some ⟨.type t, _, .cls cd, sl⟩ => decide (t = "type") && (match cd.mro, sl.toList with
    | .ref C' :: bm, [_, _, _, _, some (.builtin n), _] => decide (C' = C) && (decide (n = "ValueError.__new__") && (cd.hasDict && (!cd.hasDel && PySem.HandSPX.refsVE bm)))
    | _, _ => false)
  | _ => false
theorem badC_ok {K : Frag} {C : Addr} (h : badC K C = true) : ∃ nm q N bs bm sn sub ab col dd k0 k1 k2 k3 k5, K.lookup C = some (excClassObj nm q C N bs bm true sn sub ab col dd k0 k1 k2 k3 k5 "ValueError.__new__") ∧ PySem.HandSPX.refsVE bm = true := by
  unfold badC at h
  split at h
  · rename_i t dd cd sl ho
    obtain ⟨ht, h⟩ := ba h
    split at h
    · rename_i C' bm k0 k1 k2 k3 n k5 hm hs
      obtain ⟨h1, h⟩ := ba h
      obtain ⟨h2, h⟩ := ba h
      obtain ⟨h3, h⟩ := ba h
      obtain ⟨h4, h5⟩ := ba h
      have e1 := of_decide_eq_true h1
      have e2 := of_decide_eq_true h2
      have e3 := of_decide_eq_true ht
      subst e1 e2 e3
      obtain ⟨nm, bs, mro, ns, qn, hd, sn, sub, ab, col, del⟩ := cd
      dsimp only at hm h3 h4
      have e4 : del = false := by cases del with
        | false => rfl
        | true => cases h4
      subst hm h3 e4
      have hsl : sl = #[k0, k1, k2, k3, some (.builtin "ValueError.__new__"), k5] := by
        obtain ⟨l⟩ := sl
        simp only at hs
        rw [hs]
      subst hsl
      exact ⟨nm, qn, ns, bs, bm, sn, sub, ab, col, dd, k0, k1, k2, k3, k5, ho, h5⟩
    · cases h
  · cases h
/-- a code object's file -/
def fileB (fl : Str) (K : Frag) (cd : Value) : Bool := match cd with
  | .ref c => (match K.lookup c with
    | some ⟨_, _, .fields vs, _⟩ => (match (vs[2]? : Option Value) with
      | some (.str f _) => fl == f
      | _ => false)
    | _ => false)
  | _ => false
theorem fileB_ok {fl : Str} {K : Frag} {cd : Value} (h : fileB fl K cd = true) : ∃ (cda : Addr) (ccl : Value) (cdd : Option Addr) (vs : Array Value) (ccs : Array (Option Value)) (file : Str) (tf : Tok), cd = .ref cda ∧ K.lookup cda = some ⟨ccl, cdd, .fields vs, ccs⟩ ∧ vs[2]? = some (.str file tf) ∧ (fl == file) = true := by
  unfold fileB at h
  split at h
  · split at h
    · rename_i c _ cl dd vs sl ho
      split at h
      · rename_i f t hv
        exact ⟨c, cl, dd, vs, sl, f, t, rfl, ho, hv, h⟩
      · cases h
    · cases h
  · cases h
/-- a def's closure: the class alone -/
def cellB (K : Frag) (C : Addr) (cl : List (Str × Addr)) : Bool := match cl with
  | [(nm, cc)] => decide (nm = ("__class__" : Str)) && (match K.lookup cc with
    | some ⟨_, _, .cell (some (.ref D)), _⟩ => decide (D = C)
    | _ => false)
  | _ => false
theorem cellB_ok {K : Frag} {C : Addr} {cs : List (Str × Addr)} (h : cellB K C cs = true) : ∃ (cc : Addr) (cl : Value) (cld : Option Addr) (csl : Array (Option Value)), cs = [(("__class__" : Str), cc)] ∧ K.lookup cc = some ⟨cl, cld, .cell (some (.ref C)), csl⟩ := by
  unfold cellB at h
  split at h
  · rename_i nm cc
    obtain ⟨h1, h⟩ := ba h
    have e1 := of_decide_eq_true h1
    subst e1
    split at h
    · rename_i cl dd D sl ho
      have e2 := of_decide_eq_true h
      subst e2
      exact ⟨cc, cl, dd, sl, rfl, ho⟩
    · cases h
  · cases h
def dnonB (v : Value) : Bool := match v with
  | .none => true
  | _ => false
def badF (fl : Str) (K : Frag) (C f : Addr) : Bool := match K.lookup f with
  | some ⟨_, _, .func fd, _⟩ => codeIn K fd.code "BadBook.__init__" && (dnonB fd.defaults && (fileB fl K fd.code && cellB K C fd.closure))
  | _ => false
/-- a def's text -/
abbrev FnT : Type := Option (Str × Str × Arguments × FuncBody × Scope × Addr × Addr)
def fnT (K : Frag) (a : Addr) : FnT := match K.lookup a with
  | some ⟨_, _, .func fd, _⟩ => some (fd.name, fd.qualname, fd.params, fd.body, fd.scope, fd.globals, fd.builtins)
  | _ => none
def badT : FnT := some ("__init__", "BadBook.__init__", L2.defArgs bSt, .stmts (L2.defBody bSt), L2.defScope bSt, mainGlobals, builtinsNs)
theorem badF_ok {fl : Str} {K : Frag} {C f : Addr} (h : badF fl K C f = true) (e : fnT K f = badT) :
    ∃ (oc : Value) (od : Option Addr) (kV doc pm : Value) (an : Option Addr) (ct : Value) (osl : Array (Option Value)) (cc cda : Addr) (ccl cl : Value) (cdd cld : Option Addr) (vs : Array Value) (ccs csl : Array (Option Value)) (file : Str) (tf : Tok),
    K.lookup f = some ⟨oc, od, .func (ksFn "__init__" "BadBook.__init__" (L2.defArgs bSt) (L2.defBody bSt) (L2.defScope bSt) .none kV doc pm an (.ref cda) ct cc), osl⟩ ∧ codeIn K (.ref cda) "BadBook.__init__" = true ∧
    K.lookup cda = some ⟨ccl, cdd, .fields vs, ccs⟩ ∧ vs[2]? = some (.str file tf) ∧ (fl == file) = true ∧ K.lookup cc = some ⟨cl, cld, .cell (some (.ref C)), csl⟩ := by
  unfold badF at h
  unfold fnT at e
  split at h
  · rename_i oc od fd osl ho
    rw [ho] at e
    obtain ⟨n1, n2, n3, n4, n5, n6, n7, n8, n9, n10, n11, n12, n13, n14, n15⟩ := fd
    obtain ⟨h1, h⟩ := ba h
    obtain ⟨h2, h⟩ := ba h
    obtain ⟨h3, h4⟩ := ba h
    dsimp only at h1 h2 h3 h4
    obtain ⟨cda, ccl, cdd, vs, ccs, file, tf, e1, e2, e3, e4⟩ := fileB_ok h3
    obtain ⟨cc, cl, cld, csl, e5, e6⟩ := cellB_ok h4
    have e8 : n8 = .none := by
      cases n8 with
      | none => rfl
      | _ => cases h2
    have e7 : (some (n1, n2, n3, n4, n5, n6, n15) : FnT) = badT := e
    unfold badT at e7
    simp only [Option.some.injEq, Prod.mk.injEq] at e7
    obtain ⟨g1, g2, g3, g4, g5, g6, g7⟩ := e7
    rw [e1] at h1
    rw [g1, g2, g3, g4, g5, g6, g7, e1, e5, e8] at ho
    exact ⟨oc, od, n9, n10, n11, n12, n14, osl, cc, cda, ccl, cl, cdd, cld, vs, ccs, csl, file, tf, ho, h1, e2, e3, e4, e6⟩
  · cases h
/-- all of BadBook -/
def badB (fl : Str) (K : Frag) (C f : Addr) : Bool :=
  badC K C && (eqO (findIn K (.ref C) "__setattr__") (some (some (.builtin "object.__setattr__"))) && (eqO (findIn K (.ref C) "__getattribute__") (some (some (.builtin "BaseException.__getattribute__")))
  && (eqO (findIn K (.ref C) "__getattr__") (some none) && (eqO (findIn K (.ref C) "rule") (some none) && (eqO (findIn K (.ref C) "where") (some none) && (eqO (findIn K (.ref C) "__init__") (some (some (.ref f)))
  && (decide (typeIn K (.ref f) = some (.type "function")) && (keepIn K (.ref C) && (decide (subIn K (.ref C) (.type "BaseException") = some true) && (decide (subIn K (.ref C) (.type "ValueError") = some true)
  && (decide (typeIn K (.ref C) = some (.type "type")) && (hasDictIn K C && (decide (exmOne K (.ref C) (.ref C) = some true) && (decide (mroIn K C (.ref C) = some true) && (eqO (ks_superIn K C C "__init__") (some (some (.builtin "ValueError.__init__")))
  && (eqO (nsIn K cStatics "thirdparty.any") (some none) && badF fl K C f))))))))))))))))
theorem badB_ok {P : Program} {K : Frag} {mg : Str → Option Value} {C f : Addr} (h : badB P.main.file K C f = true) (e : fnT K f = badT) (gC : mg "BadBook" = some (.ref C)) (gS : mg "super" = none) (top : (P.main.scope.names.lookup ("super" : Str)).isSome = false) : BadTxt P K mg C f := by
  obtain ⟨a1, h⟩ := ba h
  obtain ⟨a2, h⟩ := ba h
  obtain ⟨a3, h⟩ := ba h
  obtain ⟨a4, h⟩ := ba h
  obtain ⟨a5, h⟩ := ba h
  obtain ⟨a6, h⟩ := ba h
  obtain ⟨a7, h⟩ := ba h
  obtain ⟨a8, h⟩ := ba h
  obtain ⟨a9, h⟩ := ba h
  obtain ⟨a10, h⟩ := ba h
  obtain ⟨a11, h⟩ := ba h
  obtain ⟨a12, h⟩ := ba h
  obtain ⟨a13, h⟩ := ba h
  obtain ⟨a14, h⟩ := ba h
  obtain ⟨a15, h⟩ := ba h
  obtain ⟨a16, h⟩ := ba h
  obtain ⟨a17, a18⟩ := ba h
  exact ⟨gC, gS, badC_ok a1, eqO_ok a2, eqO_ok a3, eqO_ok a4, eqO_ok a5, eqO_ok a6, eqO_ok a7, of_decide_eq_true a8, a9, of_decide_eq_true a10, of_decide_eq_true a11, of_decide_eq_true a12, a13, of_decide_eq_true a14, of_decide_eq_true a15, eqO_ok a16, eqO_ok a17, badF_ok a18 e, top⟩
/-- a class's constant -/
def conI (K : Frag) (C : Addr) (x : Str) (i : Int) : Bool := match findCls K (.ref C) (.type "type") x with
  | some (.val (.int j _)) => decide (i = j)
  | _ => false
theorem conI_ok {K : Frag} {C : Addr} {x : Str} {i : Int} (h : conI K C x i = true) : ∃ u, ClX.CVal K C (.type "type") x (.int i) u := by
  unfold conI at h
  split at h
  · rename_i j t e
    exact ⟨_, e, t, by rw [of_decide_eq_true h]⟩
  · cases h
def rdB (K : Frag) (C : Addr) : Bool := readsIn K C (.type "type") && eqO (specialIn K (.ref C) "__getattribute__") (some (some (.builtin "type.__getattribute__")))
theorem rdB_ok {K : Frag} {C : Addr} (h : rdB K C = true) : ClX.CRead K C (.type "type") := by
  obtain ⟨h1, h2⟩ := ba h
  exact ⟨h1, eqO_ok h2⟩
end BmH

/-! text BmHr -/
set_option Elab.async false
set_option linter.all false
set_option maxRecDepth 100000
set_option maxHeartbeats 0
/-! the head: facts by names, the run -/
namespace BmH
open PySem PySem.W PySem.Calls PyProof.Rows PySem.BadX Bm
open He (ga ma ba eqO eqO_ok)
open L2 (inClass)
def dG (x : PySem.Str) (st : Stmt) : He5.DefA := ⟨fun K => ga K x, x, x, L2.defArgs st, L2.defBody st, L2.defScope st, [], []⟩
def dM (c m q : PySem.Str) (st : Stmt) : He5.DefA := ⟨fun K => ma K (ga K c) m, m, q, L2.defArgs st, L2.defBody st, L2.defScope st, [], []⟩
def d0 : He5.DefA := dM "Book" "__init__" "Book.__init__" (inClass (topS 16) 0)
def d1 : He5.DefA := dM "Book" "party_of" "Book.party_of" (inClass (topS 16) 3)
def d2 : He5.DefA := dM "Strand" "__init__" "Strand.__init__" (inClass (topS 18) 2)
def d3 : He5.DefA := dG "check_rules" (topS 15)
def d4 : He5.DefA := dG "first_crossing" (topS 14)
def d5 : He5.DefA := dG "gaps" (topS 2)
def d6 : He5.DefA := dG "is_good" (topS 4)
def d7 : He5.DefA := dG "law" (topS 39)
def d8 : He5.DefA := dG "_law_book" (topS 32)
def d9 : He5.DefA := dG "_law_cell" (topS 20)
def d10 : He5.DefA := dG "_law_closed" (topS 31)
def d11 : He5.DefA := dG "_law_crossing" (topS 29)
def d12 : He5.DefA := dG "_law_drawn" (topS 36)
def d13 : He5.DefA := dG "_law_draws" (topS 22)
def d14 : He5.DefA := dG "_law_good" (topS 37)
def d15 : He5.DefA := dG "_law_groups" (topS 26)
def d16 : He5.DefA := dG "_law_had" (topS 34)
def d17 : He5.DefA := dG "_law_holds" (topS 38)
def d18 : He5.DefA := dG "_law_kinds" (topS 23)
def d19 : He5.DefA := dG "_law_labels" (topS 30)
def d20 : He5.DefA := dG "_law_mark" (topS 24)
def d21 : He5.DefA := dG "_law_mixed" (topS 21)
def d22 : He5.DefA := dG "_law_near" (topS 35)
def d23 : He5.DefA := dG "_law_orders" (topS 27)
def d24 : He5.DefA := dG "_law_parts" (topS 33)
def d25 : He5.DefA := dG "_law_strand_kinds" (topS 28)
def d26 : He5.DefA := dG "_law_walk" (topS 25)
def d27 : He5.DefA := dG "narrow_gaps" (topS 3)
def d28 : He5.DefA := dG "parted_neighbours" (topS 12)
def d29 : He5.DefA := dG "parties_cross" (topS 13)
def d30 : He5.DefA := dG "unlike_pair" (topS 11)
def fn0 : List He5.DefA := [d0, d1, d2, d3, d4, d5, d6, d7, d8, d9]
def fn1 : List He5.DefA := [d10, d11, d12, d13, d14, d15, d16, d17, d18, d19]
def fn2 : List He5.DefA := [d20, d21, d22, d23, d24, d25, d26, d27, d28, d29]
def fn3 : List He5.DefA := [d30]
def fn : List He5.DefA := fn0 ++ (fn1 ++ (fn2 ++ (fn3)))
def fa0 : List He.Fa := [.free "len", .free "range", .free "list", .free "tuple", .free "int", .free "min", .free "max", .free "sorted", .free "enumerate", .free "set"]
def fa1 : List He.Fa := [.free "super", .glo "check_rules", .glo "first_crossing", .glo "gaps", .glo "is_good", .glo "law", .glo "_law_book", .glo "_law_cell", .glo "_law_closed", .glo "_law_crossing"]
def fa2 : List He.Fa := [.glo "_law_drawn", .glo "_law_draws", .glo "_law_good", .glo "_law_groups", .glo "_law_had", .glo "_law_holds", .glo "_law_kinds", .glo "_law_labels", .glo "_law_mark", .glo "_law_mixed"]
def fa3 : List He.Fa := [.glo "_law_near", .glo "_law_orders", .glo "_law_parts", .glo "_law_strand_kinds", .glo "_law_walk", .glo "narrow_gaps", .glo "parted_neighbours", .glo "parties_cross", .glo "unlike_pair", .glo "Book"]
def fa4 : List He.Fa := [.glo "Strand", .glo "BadBook", .cls "Book", .cls "Strand", .mkr "Book", .mkr "Strand", .meth "Book" "party_of", .exm "BadBook" "BadBook" true, .noat "Book" "strand", .noat "Book" "parties"]
def fa5 : List He.Fa := [.noat "Book" "size", .noat "Book" "lone", .noat "Book" "_index_of", .noat "Strand" "kinds", .noat "Strand" "size", .noat "Strand" "unlike_pairs", .noat "Strand" "ends_unlike", .noat "Strand" "variety"]
def fa : List He.Fa := fa0 ++ (fa1 ++ (fa2 ++ (fa3 ++ (fa4 ++ (fa5)))))
abbrev R : OpenRow := OpenLaw.row PySem.Challenge.rw_beadmoot_k34_whole_good_books
def exB (K : Frag) : Bool := badB R.prog.main.file K (ga K "BadBook") (ma K (ga K "BadBook") "__init__") && (conI K (ga K "Strand") "MOST" 24 && (conI K (ga K "Strand") "TOP_KIND" 999 && rdB K (ga K "Strand")))
abbrev AlB : Type := He.AlD × (Bool × FnT)
def obsB (K : Frag) : AlB := (He5.obsA fa fn K, (exB K, fnT K (ma K (ga K "BadBook") "__init__")))
def valB : AlB := (He5.valA fn, (true, badT))
def SaysB (K : Frag) : Prop := obsB K = valB
def obsBG (n : Nat) (g : Addr → Option Obj) : AlB := obsB (He.frG g (He5.asA g n))
def hookB (n : Nat) : PySem.W.Hook where
  α := AlB
  obs := fun s => obsBG n s.heap.get?
  val := fun _ => valB
  says := fun _ h => ∃ K : Frag, K.In h ∧ SaysB K
  of := fun _ _ e => ⟨_, He.frG_in, e⟩
  keeps := fun _ _ _ ⟨K, hK, c⟩ k => ⟨K, Frag.In.keeps hK k, c⟩
theorem obsBG_eq {n : Nat} {g : Addr → Option Obj} {s : Shared} (h : ∀ a, g a = s.heap.get? a) : obsBG n g = (hookB n).obs s := by
  have e : g = s.heap.get? := funext h
  rw [e] <;> rfl
abbrev hk : PySem.W.Hook := hookB 4
def ob (s : PySem.W.SharedT) : AlB := obsBG 4 (HandSHeadRun.getT s)
theorem ob_eq (s : PySem.W.SharedT) : ob s = hk.obs s.abs := obsBG_eq (HandSHeadRun.getT_eq s)
def names0 : List PySem.Str := ["_wall", "gaps", "narrow_gaps", "is_good", "MootError", "BadStrand", "NoSuchBead", "BadBook", "unlike_pair", "parted_neighbours", "parties_cross", "first_crossing"]
def names1 : List PySem.Str := ["check_rules", "Book", "Strand", "_law_cell", "_law_mixed", "_law_draws", "_law_kinds", "_law_mark", "_law_walk", "_law_groups", "_law_orders", "_law_strand_kinds"]
def names2 : List PySem.Str := ["_law_crossing", "_law_labels", "_law_closed", "_law_book", "_law_parts", "_law_had", "_law_near", "_law_drawn", "_law_good", "_law_holds"]
def names : List PySem.Str := names0 ++ (names1 ++ (names2))
theorem run (w : World) : HandSHeadRun.RunEq R (view R.prog [39]) hk ob 20000 names w := by
  intro os
  kernel_rfl
end BmH

/-! text BmD2 -/
set_option Elab.async false
set_option linter.all false
set_option maxRecDepth 100000
set_option maxHeartbeats 4000000
namespace Bm
open PySem PySem.Spec PyProof.Rows L2 Fz
/-! ### _law_cell -/
abbrev st_law_cell : Stmt := topS 20
abbrev N_law_cell : List Str := ["_law_script", "_law_at"]
theorem sc_law_cell : FnScope N_law_cell ["_law_script", "_law_at"] (defScope st_law_cell) := ⟨rfl, rfl, rfl, by decide +kernel, rfl, by decide +kernel, by decide +kernel⟩
def r_law_cell1 (Z : Zt) : TS := (tRet (tC (.int 0)))
def r_law_cell (Z : Zt) : TS := (tSeq (tIfS (tTest (tOp xLt (tVar 1) (tCB (rLenS Z.K) (tCons (tVar 0) tNil)))) (tRet (tOp (rIxL Z.K) (tVar 0) (tVar 1))) tNext) (r_law_cell1 Z))


def S_law_cell (Z : Zt) (Rs : List Pr) (R : Pr) : Prop := ∃ (ns : List Int) (k : Nat), Rs = [Scr Z.K ns, D (dN k)] ∧ R = D (dI (ns.getD k 0))
theorem S_law_cell_len (Z : Zt) (Rs : List Pr) (R : Pr) (h : S_law_cell Z Rs R) : Rs.length = 2 := by
  obtain ⟨_, _, rfl, _⟩ := h
  rfl
theorem pure_law_cell {Z : Zt} {vs : List V} {H : Hp} {Q : VK} {E : XK} (h : Fs (S_law_cell Z) vs H Q E) : r_law_cell Z { nx := fun _ H' => Q .non H', rt := Q } (L2.start N_law_cell vs) H := by
  obtain ⟨Rs, R, F, ⟨ns, k, rfl, rfl⟩, e, a, q⟩ := h
  refine se_body (N := N_law_cell) (n := 2) rfl e a q ?_
  show SE F H _ [.has (Scr Z.K ns), .has (D (dN k))] _
  unfold r_law_cell
  refine sq_ifx (evt_lt (evr_var rfl) (evr_lenSc (evr_var rfl))) (fun hb => ?_) fun hb => ?_
  · have hk : k < ns.length := by
      have := of_decide_eq_true hb
      omega
    refine se_ret ?_
    rw [getD_lt hk]
    exact evr_ixSc (evr_var rfl) (evr_var rfl) (List.getElem?_eq_getElem hk)
  · have hk : ns.length ≤ k := by
      have := of_decide_eq_false hb
      omega
    unfold r_law_cell1
    refine se_ret ?_
    rw [List.getD_eq_getElem?_getD, List.getElem?_eq_none hk]
    exact evr_int

def L_law_cell : Nat := 1
abbrev P_law_cell : List Str := ["_law_script", "_law_at"]
theorem cal_law_cell {P : Program} {w : World} {Z : Zt} {mg : Str → Option Value} {base : Heap} {f : Addr} {fd : FuncData} (F : Fun Z.K "_law_cell" "_law_cell" st_law_cell f fd) (gf : mg "_law_cell" = some (.ref f)) (T : Tx0 mg)  : Cal P w Z.K mg base "_law_cell" L_law_cell P_law_cell (Fs (S_law_cell Z)) := by
  refine ⟨f, fd, gf, F.kp, F.binds fun _ _ _ _ _ _ us hl => match us, hl with | [_, _], _ => rfl, F.ok sc_law_cell (fun vs H Q E h => Fs.len (S := S_law_cell Z) (n := 2) (S_law_cell_len Z) h) (fun cdv A outer s H vs Q E hr h => ⟨r_law_cell Z, PSs.nox ?_, pure_law_cell h⟩)⟩
  have hu := hr.units
  have hu65 := room65 hr
  have hu64 := room64 hr
  exact (pss_cons (ps_if (pt_cmpR op_lt (pv 1) (pe_callB call_len_seq (by rfl) T.len PySem.boot_len (pa_cons (pv 0) pa_nil)) (nomark _)) (pss_one (ps_ret (pe_ix ix_list (pv 0) (pv 1) (fun _ _ => rfl)))) pss_nil) (pss_one (ps_ret pe_int)))


/-! ### _law_mixed -/
abbrev st_law_mixed : Stmt := topS 21
abbrev N_law_mixed : List Str := ["_law_cell_here", "_law_k", "_law_mixed_here"]
theorem sc_law_mixed : FnScope N_law_mixed ["_law_cell_here", "_law_k"] (defScope st_law_mixed) := ⟨rfl, rfl, rfl, by decide +kernel, rfl, by decide +kernel, by decide +kernel⟩
def r_law_mixed1 (Z : Zt) : TS := (tRet (tOp xFdv (tVar 2) (tC (.int 9))))
def r_law_mixed2 (Z : Zt) : TS := (tSeq (tAsg (tOp xMod (tCB xInt1 (tCons (tOp xAdd (tOp xMul (tVar 2) (tOp xAdd (tVar 2) (tC (.int 69621)))) (tOp xMul (tC (.int 31)) (tVar 1))) tNil)) (tC (.int 2147483647))) (gName 2)) (r_law_mixed1 Z))
def r_law_mixed3 (Z : Zt) : TS := (tSeq (tAsg (tOp xMod (tCB xInt1 (tCons (tOp xMul (tVar 2) (tOp xAdd (tVar 2) (tC (.int 48271)))) tNil)) (tC (.int 2147483629))) (gName 2)) (r_law_mixed2 Z))
def r_law_mixed (Z : Zt) : TS := (tSeq (tAsg (tOp xMod (tCB xInt1 (tCons (tOp xAdd (tOp xAdd (tVar 0) (tOp xMul (tC (.int 7919)) (tVar 1))) (tC (.int 13))) tNil)) (tC (.int 2147483647))) (gName 2)) (r_law_mixed3 Z))


def S_law_mixed (_ : Zt) (Rs : List Pr) (R : Pr) : Prop := ∃ (c : Int) (k : Nat), k ≤ 1000 ∧ Rs = [D (dI c), D (dN k)] ∧ R = PZ
theorem S_law_mixed_len (Z : Zt) (Rs : List Pr) (R : Pr) (h : S_law_mixed Z Rs R) : Rs.length = 2 := by
  obtain ⟨_, _, _, rfl, _⟩ := h
  rfl
theorem pure_law_mixed {Z : Zt} {vs : List V} {H : Hp} {Q : VK} {E : XK} (h : Fs (S_law_mixed Z) vs H Q E) : r_law_mixed Z { nx := fun _ H' => Q .non H', rt := Q } (L2.start N_law_mixed vs) H := by
  obtain ⟨Rs, R, F, ⟨c, k, hk, rfl, rfl⟩, e, a, q⟩ := h
  refine se_body (N := N_law_mixed) (n := 3) rfl e a q ?_
  show SE F H _ [.has (D (dI c)), .has (D (dN k)), .no] _
  have md : ∀ a b : Int, 0 < b → 0 ≤ a % b ∧ a % b < b := fun a b h => ⟨Int.emod_nonneg a (by omega), Int.emod_lt_of_pos a h⟩
  unfold r_law_mixed
  refine sq_asg (evr_mod (evr_int1 (evr_add (evr_add (evr_var rfl) (evr_mul evr_int (evr_var rfl) (.inl (by omega)))) evr_int)) evr_int (by decide)) ?_
  obtain ⟨m1, m2⟩ := md (c + 7919 * (k : Int) + 13) 2147483647 (by decide)
  generalize hx : (c + 7919 * (k : Int) + 13) % 2147483647 = x
  rw [hx] at m1 m2
  unfold r_law_mixed3
  refine sq_asg (evr_mod (evr_int1 (evr_mul (evr_var rfl) (evr_add (evr_var rfl) evr_int) (.inl (by omega)))) evr_int (by decide)) ?_
  obtain ⟨p1, p2⟩ := md (x * (x + 48271)) 2147483629 (by decide)
  generalize hy : (x * (x + 48271)) % 2147483629 = y
  rw [hy] at p1 p2
  unfold r_law_mixed2
  refine sq_asg (evr_mod (evr_int1 (evr_add (evr_mul (evr_var rfl) (evr_add (evr_var rfl) evr_int) (.inl (by omega))) (evr_mul evr_int (evr_var rfl) (.inl (by omega))))) evr_int (by decide)) ?_
  unfold r_law_mixed1
  exact se_ret (pz_in (evr_fdv (evr_var rfl) evr_int ⟨by decide, by decide⟩))

def L_law_mixed : Nat := 1
abbrev P_law_mixed : List Str := ["_law_cell_here", "_law_k"]
theorem cal_law_mixed {P : Program} {w : World} {Z : Zt} {mg : Str → Option Value} {base : Heap} {f : Addr} {fd : FuncData} (F : Fun Z.K "_law_mixed" "_law_mixed" st_law_mixed f fd) (gf : mg "_law_mixed" = some (.ref f)) (T : Tx0 mg)  : Cal P w Z.K mg base "_law_mixed" L_law_mixed P_law_mixed (Fs (S_law_mixed Z)) := by
  refine ⟨f, fd, gf, F.kp, F.binds fun _ _ _ _ _ _ us hl => match us, hl with | [_, _], _ => rfl, F.ok sc_law_mixed (fun vs H Q E h => Fs.len (S := S_law_mixed Z) (n := 2) (S_law_mixed_len Z) h) (fun cdv A outer s H vs Q E hr h => ⟨r_law_mixed Z, PSs.nox ?_, pure_law_mixed h⟩)⟩
  have hu := hr.units
  have hu65 := room65 hr
  have hu64 := room64 hr
  exact (pss_cons (ps_set (i := 2) sc_law_mixed.nd rfl (Or.inl rfl) (pe_op op_mod (pe_callTy call_int1 (by rfl) T.int (by decide +kernel) (pa_cons (pe_op op_add (pe_op op_add (pv 0) (pe_op op_mul pe_int (pv 1))) pe_int) pa_nil)) pe_int)) (pss_cons (ps_set (i := 2) sc_law_mixed.nd rfl (Or.inl rfl) (pe_op op_mod (pe_callTy call_int1 (by rfl) T.int (by decide +kernel) (pa_cons (pe_op op_mul (pv 2) (pe_op op_add (pv 2) pe_int)) pa_nil)) pe_int)) (pss_cons (ps_set (i := 2) sc_law_mixed.nd rfl (Or.inl rfl) (pe_op op_mod (pe_callTy call_int1 (by rfl) T.int (by decide +kernel) (pa_cons (pe_op op_add (pe_op op_mul (pv 2) (pe_op op_add (pv 2) pe_int)) (pe_op op_mul pe_int (pv 1))) pa_nil)) pe_int)) (pss_one (ps_ret (pe_op op_fdiv (pv 2) pe_int))))))


/-! ### _law_draws -/
abbrev st_law_draws : Stmt := topS 22
abbrev N_law_draws : List Str := ["_law_cell_here", "_law_count", "_law_size", "_law_draws_here", "_law_rest", "_law_k"]
theorem sc_law_draws : FnScope N_law_draws ["_law_cell_here", "_law_count", "_law_size"] (defScope st_law_draws) := ⟨rfl, rfl, rfl, by decide +kernel, rfl, by decide +kernel, by decide +kernel⟩
def r_law_draws1 (Z : Zt) : TS := (tAsg (tOp xFdv (tVar 4) (tVar 2)) (gName 4))
def r_law_draws2 (Z : Zt) : TS := (tIfS (tAnd (tTest (tOp xGe (tVar 0) (tOp xPow (tC (.int 10)) (tC (.int 18))))) (tTest (tOp xGt (tVar 4) (tC (.int 0))))) (tSeq (tDrop (tBM Z.K "list" rAppend (tVar 3) (tCons (tOp xMod (tCB xInt1 (tCons (tVar 4) tNil)) (tVar 2)) tNil))) (r_law_draws1 Z)) (tDrop (tBM Z.K "list" rAppend (tVar 3) (tCons (tOp xMod (tCB xInt1 (tCons (tCall (Fs (S_law_mixed Z)) [] E0 (tCons (tVar 0) (tCons (tVar 5) tNil))) tNil)) (tVar 2)) tNil))))
def r_law_draws3 (Z : Zt) : TS := (tRet (tVar 3))
def r_law_draws4 (Z : Zt) : TS := (tSeq (tFor (iRng1 (tCons (tVar 1) tNil)) (gName 5) (r_law_draws2 Z)) (r_law_draws3 Z))
def r_law_draws5 (Z : Zt) : TS := (tSeq (tAsg (tVar 0) (gName 4)) (r_law_draws4 Z))
def r_law_draws (Z : Zt) : TS := (tSeq (tAsg (tLst tNil) (gName 3)) (r_law_draws5 Z))


def PD (count size : Nat) : Pr := ExP (fun ns : List Nat => ns.length = count ∧ ∀ x ∈ ns, x < size) fun ns => D (dNs ns)
def S_law_draws (_ : Zt) (Rs : List Pr) (R : Pr) : Prop := ∃ (c : Int) (count size : Nat), count ≤ 1000 ∧ 0 < size ∧ size ≤ 1000 ∧ Rs = [D (dI c), D (dN count), D (dN size)] ∧ R = PD count size
theorem S_law_draws_len (Z : Zt) (Rs : List Pr) (R : Pr) (h : S_law_draws Z Rs R) : Rs.length = 3 := by
  obtain ⟨_, _, _, _, _, _, rfl, _⟩ := h
  rfl
theorem pure_law_draws {Z : Zt} {vs : List V} {H : Hp} {Q : VK} {E : XK} (h : Fs (S_law_draws Z) vs H Q E) : r_law_draws Z { nx := fun _ H' => Q .non H', rt := Q } (L2.start N_law_draws vs) H := by
  obtain ⟨Rs, R, F, ⟨c, count, size, hc, h0, h1, rfl, rfl⟩, e, a, q⟩ := h
  refine se_body (N := N_law_draws) (n := 6) rfl e a q ?_
  show SE F H _ [.has (D (dI c)), .has (D (dN count)), .has (D (dN size)), .no, .no, .no] _
  unfold r_law_draws
  refine sq_own evn_nil ?_
  unfold r_law_draws5
  refine sq_asg (evr_var rfl) ?_
  unfold r_law_draws4
  refine se_seq (fun env => ∃ (ns : List Nat) (r : Int) (x : Sl), ns.length = count ∧ (∀ x ∈ ns, x < size) ∧ env = [.has (D (dI c)), .has (D (dN count)), .has (D (dN size)), .own (ns.map dN), .has (D (dI r)), x])
    (se_forR1 (n := count) (evr_var rfl) (by omega) (fun i env => ∃ (ns : List Nat) (r : Int) (x : Sl), ns.length = i ∧ (∀ x ∈ ns, x < size) ∧ env = [.has (D (dI c)), .has (D (dN count)), .has (D (dN size)), .own (ns.map dN), .has (D (dI r)), x])
      ⟨[], c, _, rfl, by simp, rfl⟩ (fun i env' hi iv => ?_) fun env' iv => iv) ?_
  · obtain ⟨ns, r, x, hl, hs, rfl⟩ := iv
    have step : ∀ (n : Nat) (r' : Int) (x' : Sl), n < size → ∃ (ns' : List Nat) (r2 : Int) (x2 : Sl), ns'.length = i + 1 ∧ (∀ x ∈ ns', x < size) ∧ [Sl.has (D (dI c)), .has (D (dN count)), .has (D (dN size)), .own (ns.map dN ++ [dN n]), .has (D (dI r')), x'] = [.has (D (dI c)), .has (D (dN count)), .has (D (dN size)), .own (ns'.map dN), .has (D (dI r2)), x2] := fun n r' x' hn =>
      ⟨ns ++ [n], r', x', by simp [hl], fun y hy => by
        rcases List.mem_append.mp hy with z | z
        · exact hs y z
        · rw [List.mem_singleton.mp z]; exact hn, by rw [List.map_append]; rfl⟩
    unfold r_law_draws2
    refine se_if (evt_and (evt_ge (evr_var rfl) (evr_pow evr_int evr_int ⟨by decide, by decide, by decide⟩)) fun _ => evt_gt (evr_var rfl) evr_int) (fun _ => ?_) fun _ => ?_
    · refine se_seq (fun env => ∃ n, n < size ∧ env = [.has (D (dI c)), .has (D (dN count)), .has (D (dN size)), .own (ns.map dN ++ [dN n]), .has (D (dI r)), .has (D (dN i))]) (se_appE (dz := fun n : Nat => dN n) rfl (evr_modZ (evr_intZ (pz_in (evr_var rfl))) (evr_var rfl) h0) (by rw [List.length_map]; omega) fun n hn => ⟨n, hn, rfl⟩) ?_
      rintro _ ⟨n, hn, rfl⟩
      unfold r_law_draws1
      exact se_asg (evr_fdv (evr_var rfl) (evr_var rfl) ⟨by omega, by omega⟩) (step n _ _ hn)
    · exact se_appE (dz := fun n : Nat => dN n) rfl (evr_modZ (evr_intZ (evr_call (Rs := [D (dI c), D (dN i)]) (eva_cons (evr_var rfl) (eva_cons (evr_var rfl) eva_nil)) ⟨c, i, by omega, rfl, rfl⟩)) (evr_var rfl) h0) (by rw [List.length_map]; omega) fun n hn => step n _ _ hn
  · rintro _ ⟨ns, r, x, hl, hs, rfl⟩
    unfold r_law_draws3
    exact se_freeze 3 rfl (se_ret (exp_in (z := ns) ⟨hl, hs⟩ (evr_var rfl)))

def L_law_draws : Nat := 2
abbrev P_law_draws : List Str := ["_law_cell_here", "_law_count", "_law_size"]
theorem cal_law_draws {P : Program} {w : World} {Z : Zt} {mg : Str → Option Value} {base : Heap} {f : Addr} {fd : FuncData} (F : Fun Z.K "_law_draws" "_law_draws" st_law_draws f fd) (gf : mg "_law_draws" = some (.ref f)) (T : Tx0 mg) (C_law_mixed : Cal P w Z.K mg base "_law_mixed" L_law_mixed P_law_mixed (Fs (S_law_mixed Z))) : Cal P w Z.K mg base "_law_draws" L_law_draws P_law_draws (Fs (S_law_draws Z)) := by
  refine ⟨f, fd, gf, F.kp, F.binds fun _ _ _ _ _ _ us hl => match us, hl with | [_, _, _], _ => rfl, F.ok sc_law_draws (fun vs H Q E h => Fs.len (S := S_law_draws Z) (n := 3) (S_law_draws_len Z) h) (fun cdv A outer s H vs Q E hr h => ⟨r_law_draws Z, PSs.nox ?_, pure_law_draws h⟩)⟩
  have hu := hr.units
  have hu65 := room65 hr
  have hu64 := room64 hr
  exact (pss_cons (ps_set (i := 3) sc_law_draws.nd rfl (Or.inl rfl) (pe_lst pa_nil)) (pss_cons (ps_set (i := 4) sc_law_draws.nd rfl (Or.inl rfl) (pv 0)) (pss_cons (ps_for PassesOwn.never rfl (pi_range1 rfl T.range (pa_cons (pv 1) pa_nil)) (pg_name (i := 5) sc_law_draws.nd rfl (Or.inl rfl)) (pss_one (ps_if (PW.pt (pw_and (pt_cmpR op_ge (pv 0) (pe_op op_pow pe_int pe_int) (nomark _)) (pw_and1 (pt_cmpR op_gt (pv 4) pe_int (nomark _))))) (pss_cons (ps_expr (pe_bm PySem.F.plainAttrs_list PySem.F.slot_list_append PySem.F.type_list_append mt_append (pv 3) (pa_cons (pe_op op_mod (pe_callTy call_int1 (by rfl) T.int (by decide +kernel) (pa_cons (pv 4) pa_nil)) (pv 2)) pa_nil))) (pss_one (ps_set (i := 4) sc_law_draws.nd rfl (Or.inl rfl) (pe_op op_fdiv (pv 4) (pv 2))))) (pss_one (ps_expr (pe_bm PySem.F.plainAttrs_list PySem.F.slot_list_append PySem.F.type_list_append mt_append (pv 3) (pa_cons (pe_op op_mod (pe_callTy call_int1 (by rfl) T.int (by decide +kernel) (pa_cons (pe_cal C_law_mixed (hr.mono (by decide)) (pa_cons (pv 0) (pa_cons (pv 5) pa_nil))) pa_nil)) (pv 2)) pa_nil))))))) (pss_one (ps_ret (pv 3))))))


/-! ### _law_mark -/
abbrev st_law_mark : Stmt := topS 24
abbrev N_law_mark : List Str := ["_law_left", "_law_bead", "_law_right"]
theorem sc_law_mark : FnScope N_law_mark ["_law_left", "_law_bead", "_law_right"] (defScope st_law_mark) := ⟨rfl, rfl, rfl, by decide +kernel, rfl, by decide +kernel, by decide +kernel⟩
def r_law_mark1 (Z : Zt) : TS := (tRet (tC (.str "odd")))
def r_law_mark2 (Z : Zt) : TS := (tRet (tC (.str "strife")))
def r_law_mark3 (Z : Zt) : TS := (tSeq (tIfS (tOr (tTest (tOp rEq (tVar 1) (tVar 0))) (tTest (tOp rEq (tVar 1) (tVar 2)))) (tRet (tC (.str "edge"))) tNext) (r_law_mark2 Z))
def r_law_mark (Z : Zt) : TS := (tSeq (tIfS (tTest (tOp rEq (tVar 0) (tVar 2))) (tSeq (tIfS (tTest (tOp rEq (tVar 1) (tVar 0))) (tRet (tC (.str "quiet"))) tNext) (r_law_mark1 Z)) tNext) (r_law_mark3 Z))


def mkOf (l b r : Int) : Str := if l == r then (if b == l then "quiet" else "odd") else if b == l || b == r then "edge" else "strife"
def S_law_mark (_ : Zt) (Rs : List Pr) (R : Pr) : Prop := ∃ l b r : Int, Rs = [D (dI l), D (dI b), D (dI r)] ∧ R = D (.str (mkOf l b r))
theorem S_law_mark_len (Z : Zt) (Rs : List Pr) (R : Pr) (h : S_law_mark Z Rs R) : Rs.length = 3 := by
  obtain ⟨_, _, _, rfl, _⟩ := h
  rfl
theorem pure_law_mark {Z : Zt} {vs : List V} {H : Hp} {Q : VK} {E : XK} (h : Fs (S_law_mark Z) vs H Q E) : r_law_mark Z { nx := fun _ H' => Q .non H', rt := Q } (L2.start N_law_mark vs) H := by
  obtain ⟨Rs, R, F, ⟨l, b, r, rfl, rfl⟩, e, a, q⟩ := h
  refine se_body (N := N_law_mark) (n := 3) rfl e a q ?_
  show SE F H _ [.has (D (dI l)), .has (D (dI b)), .has (D (dI r))] _
  unfold r_law_mark mkOf
  refine sq_ifx (evt_eqI (evr_var rfl) (evr_var rfl)) (fun h1 => ?_) fun h1 => ?_
  · refine sq_ifx (evt_eqI (evr_var rfl) (evr_var rfl)) (fun h2 => ?_) fun h2 => ?_
    · simp only [h1, h2, if_true]
      exact se_ret evr_str
    · unfold r_law_mark1
      simp only [h1, h2, if_true, Bool.false_eq_true, if_false]
      exact se_ret evr_str
  · unfold r_law_mark3
    refine sq_ifx (evt_or (evt_eqI (evr_var rfl) (evr_var rfl)) fun _ => evt_eqI (evr_var rfl) (evr_var rfl)) (fun h2 => ?_) fun h2 => ?_
    · simp only [h1, h2, if_true, Bool.false_eq_true, if_false]
      exact se_ret evr_str
    · unfold r_law_mark2
      simp only [h1, h2, Bool.false_eq_true, if_false]
      exact se_ret evr_str

def L_law_mark : Nat := 1
abbrev P_law_mark : List Str := ["_law_left", "_law_bead", "_law_right"]
theorem cal_law_mark {P : Program} {w : World} {Z : Zt} {mg : Str → Option Value} {base : Heap} {f : Addr} {fd : FuncData} (F : Fun Z.K "_law_mark" "_law_mark" st_law_mark f fd) (gf : mg "_law_mark" = some (.ref f)) (T : Tx0 mg)  : Cal P w Z.K mg base "_law_mark" L_law_mark P_law_mark (Fs (S_law_mark Z)) := by
  refine ⟨f, fd, gf, F.kp, F.binds fun _ _ _ _ _ _ us hl => match us, hl with | [_, _, _], _ => rfl, F.ok sc_law_mark (fun vs H Q E h => Fs.len (S := S_law_mark Z) (n := 3) (S_law_mark_len Z) h) (fun cdv A outer s H vs Q E hr h => ⟨r_law_mark Z, PSs.nox ?_, pure_law_mark h⟩)⟩
  have hu := hr.units
  have hu65 := room65 hr
  have hu64 := room64 hr
  exact (pss_cons (ps_if (pt_cmpR op_eq (pv 0) (pv 2) (nomark _)) (pss_cons (ps_if (pt_cmpR op_eq (pv 1) (pv 0) (nomark _)) (pss_one (ps_ret pe_str)) pss_nil) (pss_one (ps_ret pe_str))) pss_nil) (pss_cons (ps_if (PW.pt (pw_or (pt_cmpR op_eq (pv 1) (pv 0) (nomark _)) (pw_or1 (pt_cmpR op_eq (pv 1) (pv 2) (nomark _))))) (pss_one (ps_ret pe_str)) pss_nil) (pss_one (ps_ret pe_str))))


/-! ### _law_closed -/
abbrev st_law_closed : Stmt := topS 31
abbrev N_law_closed : List Str := ["_law_size", "_law_k"]
theorem sc_law_closed : FnScope N_law_closed ["_law_size"] (defScope st_law_closed) := ⟨rfl, rfl, rfl, by decide +kernel, rfl, by decide +kernel, by decide +kernel⟩
def r_law_closed (Z : Zt) : TS := (tRet (tLc (iRng1 (tCons (tVar 0) tNil)) (gName 1) tYes (tTup (tCons (tVar 1) (tCons (tOp xMod (tOp xAdd (tVar 1) (tC (.int 1))) (tVar 0)) tNil))) [1]))


def closedP (n : Nat) : List (Nat × Nat) := (List.range n).map fun k => (k, (k + 1) % n)
def S_law_closed (_ : Zt) (Rs : List Pr) (ds : List PyData) : Prop := ∃ n : Nat, 0 < n ∧ n ≤ 1000 ∧ Rs = [D (dN n)] ∧ ds = (closedP n).map dP
theorem S_law_closed_len (Z : Zt) (Rs : List Pr) (R : List PyData) (h : S_law_closed Z Rs R) : Rs.length = 1 := by
  obtain ⟨_, _, _, rfl, _⟩ := h
  rfl
theorem pure_law_closed {Z : Zt} {vs : List V} {H : Hp} {Q : VK} {E : XK} (h : Fn (S_law_closed Z) vs H Q E) : r_law_closed Z { nx := fun _ H' => Q .non H', rt := Q } (L2.start N_law_closed vs) H := by
  obtain ⟨Rs, ds, F, ⟨n, h0, hn, rfl, rfl⟩, e, a, q⟩ := h
  unfold r_law_closed
  refine se_bodyN (N := N_law_closed) (n := 2) rfl e a q ?_
  show EvN _ [.has (D (dN n)), .no] _
  have ee : (closedP n).map dP = (List.range n).map fun k => dP (k, (k + 1) % n) := by unfold closedP; rw [List.map_map]; rfl
  rw [ee]
  exact evn_lcRy (fun k => dP (k, (k + 1) % n)) (evr_var rfl) (by omega) fun k hk => evr_tup2 (evr_var rfl) (evr_modN (evr_addN (n := 1) (evr_var rfl) evr_int) (evr_var rfl) h0)

def L_law_closed : Nat := 1
abbrev P_law_closed : List Str := ["_law_size"]
theorem cal_law_closed {P : Program} {w : World} {Z : Zt} {mg : Str → Option Value} {base : Heap} {f : Addr} {fd : FuncData} (F : Fun Z.K "_law_closed" "_law_closed" st_law_closed f fd) (gf : mg "_law_closed" = some (.ref f)) (T : Tx0 mg)  : Cal P w Z.K mg base "_law_closed" L_law_closed P_law_closed (Fn (S_law_closed Z)) := by
  refine ⟨f, fd, gf, F.kp, F.binds fun _ _ _ _ _ _ us hl => match us, hl with | [_], _ => rfl, F.ok sc_law_closed (fun vs H Q E h => Fn.len (S := S_law_closed Z) (n := 1) (S_law_closed_len Z) h) (fun cdv A outer s H vs Q E hr h => ⟨r_law_closed Z, PSs.nox ?_, pure_law_closed h⟩)⟩
  have hu := hr.units
  have hu65 := room65 hr
  have hu64 := room64 hr
  exact (pss_one (ps_ret (pe_lc (own := [("_law_k", 1)]) (g := gName 1) (tt := tYes) rfl sc_law_closed.nd (pi_range1 rfl T.range (pa_cons (pv 0) pa_nil)) (blkOk_by (own := [("_law_k", 1)]) (N := N_law_closed) (sc := defScope st_law_closed) (by decide +kernel)) (fun _ _ _ _ _ => pg_name (i := 1) sc_law_closed.nd rfl (Or.inl rfl)) (fun _ _ _ _ _ => pts_nil) (fun _ _ _ _ _ => (pe_tup (pa_cons (pv 1) (pa_cons (pe_op op_mod (pe_op op_add (pv 1) pe_int) (pv 0)) pa_nil)))))))


end Bm

/-! text BmD7 -/
set_option Elab.async false
set_option linter.all false
set_option maxRecDepth 100000
set_option maxHeartbeats 4000000
namespace Bm
open PySem PySem.Spec PyProof.Rows L2 Fz
/-! ### _law_kinds -/
abbrev st_law_kinds : Stmt := topS 23
abbrev N_law_kinds : List Str := ["_law_script", "_law_at", "_law_most", "_law_shape", "_law_size", "_law_variety", "_law_step", "_law_picks", "_law_pick"]
theorem sc_law_kinds : FnScope N_law_kinds ["_law_script", "_law_at", "_law_most"] (defScope st_law_kinds) := ⟨rfl, rfl, rfl, by decide +kernel, rfl, by decide +kernel, by decide +kernel⟩
def r_law_kinds1 (Z : Zt) : TS := (tRet (tLc (iList Z.K (tVar 7)) (gName 8) tYes (tOp xMod (tCB xInt1 (tCons (tOp xAdd (tOp (rIxL Z.K) (tVar 3) (tC (.int 2))) (tOp xMul (tVar 8) (tVar 6))) tNil)) (tC (.int 1000))) [8]))
def r_law_kinds2 (Z : Zt) : TS := (tSeq (tAsg (tCall (Fs (S_law_draws Z)) [] E0 (tCons (tCall (Fs (S_law_cell Z)) [] E0 (tCons (tVar 0) (tCons (tOp xAdd (tVar 1) (tC (.int 1))) tNil))) (tCons (tVar 4) (tCons (tVar 5) tNil)))) (gName 7)) (r_law_kinds1 Z))
def r_law_kinds3 (Z : Zt) : TS := (tSeq (tAsg (tOp (rIxL Z.K) (tLst (tCons (tC (.int 1)) (tCons (tC (.int 7)) (tCons (tC (.int 333)) (tCons (tC (.int 999)) tNil))))) (tOp xMod (tOp (rIxL Z.K) (tVar 3) (tC (.int 3))) (tC (.int 4)))) (gName 6)) (r_law_kinds2 Z))
def r_law_kinds4 (Z : Zt) : TS := (tSeq (tAsg (tOp (rIxL Z.K) (tLst (tCons (tC (.int 1)) (tCons (tC (.int 2)) (tCons (tC (.int 2)) (tCons (tC (.int 3)) (tCons (tC (.int 3)) (tCons (tC (.int 4)) (tCons (tC (.int 6)) (tCons (tC (.int 24)) tNil))))))))) (tOp xMod (tOp (rIxL Z.K) (tVar 3) (tC (.int 1))) (tC (.int 8)))) (gName 5)) (r_law_kinds3 Z))
def r_law_kinds5 (Z : Zt) : TS := (tSeq (tAsg (tOp xAdd (tC (.int 2)) (tOp xMod (tOp (rIxL Z.K) (tVar 3) (tC (.int 0))) (tOp xSub (tVar 2) (tC (.int 1))))) (gName 4)) (r_law_kinds4 Z))
def r_law_kinds (Z : Zt) : TS := (tSeq (tAsg (tCall (Fs (S_law_draws Z)) [] E0 (tCons (tCall (Fs (S_law_cell Z)) [] E0 (tCons (tVar 0) (tCons (tVar 1) tNil))) (tCons (tC (.int 4)) (tCons (tC (.int 1000)) tNil)))) (gName 3)) (r_law_kinds5 Z))


/-- a list of int constants -/
def tInts : List Nat → TA
  | [] => tNil
  | n :: l => tCons (tC (.int (n : Int))) (tInts l)
theorem eva_ints {env : List Sl} : ∀ l : List Nat, EvAs (tInts l) env ((l.map dN).map D)
  | [] => eva_nil
  | _ :: l => eva_cons evr_int (eva_ints l)
theorem evn_ints {env : List Sl} (l : List Nat) (h : l.length ≤ 100000) : EvN (tLst (tInts l)) env (l.map dN) := evn_lst (eva_ints l) (by rw [List.length_map]; exact h)
theorem getD_some {l : List Nat} {i : Nat} (h : i < l.length) : l[i]? = some (l.getD i 0) := by rw [getD_lt h]; exact List.getElem?_eq_getElem h
def KsOk (most : Nat) (ks : List Int) : Prop := 2 ≤ ks.length ∧ ks.length ≤ most ∧ ∀ x ∈ ks, 0 ≤ x ∧ x < 1000
def PK (most : Nat) : Pr := ExP (KsOk most) fun ks => D (dIs ks)
def S_law_kinds (Z : Zt) (Rs : List Pr) (R : Pr) : Prop := ∃ (ns : List Int) (k most : Nat), 2 ≤ most ∧ most ≤ 7 ∧ Rs = [Scr Z.K ns, D (dN k), D (dN most)] ∧ R = PK most
theorem S_law_kinds_len (Z : Zt) (Rs : List Pr) (R : Pr) (h : S_law_kinds Z Rs R) : Rs.length = 3 := by
  obtain ⟨_, _, _, _, _, rfl, _⟩ := h
  rfl
theorem pure_law_kinds {Z : Zt} {vs : List V} {H : Hp} {Q : VK} {E : XK} (h : Fs (S_law_kinds Z) vs H Q E) : r_law_kinds Z { nx := fun _ H' => Q .non H', rt := Q } (L2.start N_law_kinds vs) H := by
  obtain ⟨Rs, R, F, ⟨ns, k, most, hm, hm2, rfl, rfl⟩, e, a, q⟩ := h
  refine se_body (N := N_law_kinds) (n := 9) rfl e a q ?_
  show SE F H _ [.has (Scr Z.K ns), .has (D (dN k)), .has (D (dN most)), .no, .no, .no, .no, .no, .no] _
  unfold r_law_kinds
  refine sq_asg (R := PD 4 1000) (evr_call (Rs := [D (dI _), D (dN 4), D (dN 1000)]) (eva_cons (evr_call (Rs := [Scr Z.K ns, D (dN k)]) (eva_cons (evr_var rfl) (eva_cons (evr_var rfl) eva_nil)) ⟨ns, k, rfl, rfl⟩) (eva_cons evr_int (eva_cons evr_int eva_nil))) ⟨_, 4, 1000, by omega, by omega, by omega, rfl, rfl⟩) ?_
  refine se_open 3 rfl fun sh hsh => ?_
  obtain ⟨sl, sb⟩ := hsh
  have hs : ∀ i, i < 4 → sh[i]? = some (sh.getD i 0) := fun i hi => getD_some (by omega)
  unfold r_law_kinds5
  refine sq_asg (R := D (dN (2 + sh.getD 0 0 % (most - 1)))) (evr_addN (m := 2) evr_int (evr_modN (evr_ixN (i := 0) (evr_var rfl) evr_int (hs 0 (by omega))) (evr_subN (n := 1) (evr_var rfl) evr_int (by omega)) (by omega))) ?_
  have hsz : 2 + sh.getD 0 0 % (most - 1) ≤ most := by
    have := Nat.mod_lt (sh.getD 0 0) (show 0 < most - 1 by omega)
    omega
  generalize hz : 2 + sh.getD 0 0 % (most - 1) = sz at hsz ⊢
  have hsz2 : 2 ≤ sz := by omega
  unfold r_law_kinds4
  refine sq_asg (R := D (dN (([1, 2, 2, 3, 3, 4, 6, 24] : List Nat).getD (sh.getD 1 0 % 8) 0))) (evr_ixN (EvN.r (evn_ints [1, 2, 2, 3, 3, 4, 6, 24] (by decide))) (evr_modN (n := 8) (evr_ixN (i := 1) (evr_var rfl) evr_int (hs 1 (by omega))) evr_int (by omega)) (getD_some (Nat.mod_lt _ (by decide)))) ?_
  have hv : 0 < ([1, 2, 2, 3, 3, 4, 6, 24] : List Nat).getD (sh.getD 1 0 % 8) 0 ∧ ([1, 2, 2, 3, 3, 4, 6, 24] : List Nat).getD (sh.getD 1 0 % 8) 0 ≤ 24 :=
    (by decide : ∀ i < 8, 0 < ([1, 2, 2, 3, 3, 4, 6, 24] : List Nat).getD i 0 ∧ ([1, 2, 2, 3, 3, 4, 6, 24] : List Nat).getD i 0 ≤ 24) _ (Nat.mod_lt _ (by omega))
  generalize ([1, 2, 2, 3, 3, 4, 6, 24] : List Nat).getD (sh.getD 1 0 % 8) 0 = vy at hv ⊢
  unfold r_law_kinds3
  refine sq_asg (R := D (dN (([1, 7, 333, 999] : List Nat).getD (sh.getD 3 0 % 4) 0))) (evr_ixN (EvN.r (evn_ints [1, 7, 333, 999] (by decide))) (evr_modN (n := 4) (evr_ixN (i := 3) (evr_var rfl) evr_int (hs 3 (by omega))) evr_int (by omega)) (getD_some (Nat.mod_lt _ (by decide)))) ?_
  generalize ([1, 7, 333, 999] : List Nat).getD (sh.getD 3 0 % 4) 0 = sp
  unfold r_law_kinds2
  refine sq_asg (R := PD sz vy) (evr_call (Rs := [D (dI _), D (dN sz), D (dN vy)]) (eva_cons (evr_call (Rs := [Scr Z.K ns, D (dN (k + 1))]) (eva_cons (evr_var rfl) (eva_cons (evr_addN (n := 1) (evr_var rfl) evr_int) eva_nil)) ⟨ns, k + 1, rfl, rfl⟩) (eva_cons (evr_var rfl) (eva_cons (evr_var rfl) eva_nil))) ⟨_, sz, vy, by omega, by omega, by omega, rfl, rfl⟩) ?_
  refine se_open 7 rfl fun pk hpk => ?_
  obtain ⟨pl, pb⟩ := hpk
  unfold r_law_kinds1
  refine se_ret (exp_in (z := pk.map fun p => (((sh.getD 2 0 + p * sp) % 1000 : Nat) : Int)) ⟨by rw [List.length_map]; omega, by rw [List.length_map]; omega, fun x hx => ?_⟩ ?_)
  · obtain ⟨p, _, rfl⟩ := List.mem_map.mp hx
    have := Nat.mod_lt (sh.getD 2 0 + p * sp) (show 0 < 1000 by omega)
    omega
  · have e1 : dIs (pk.map fun p => (((sh.getD 2 0 + p * sp) % 1000 : Nat) : Int)) = .list (pk.map fun p => dN ((sh.getD 2 0 + p * sp) % 1000)) := by
      show PyData.list _ = _
      rw [List.map_map]
      rfl
    rw [e1]
    exact EvN.r (evn_lcLy (j := 8) dN (fun p => dN ((sh.getD 2 0 + p * sp) % 1000)) (evr_var rfl) (by omega) fun p hp => evr_modN (n := 1000) (evr_int1 (evr_addN (evr_ixN (i := 2) (evr_var rfl) evr_int (hs 2 (by omega))) (evr_mulN (evr_var rfl) (evr_var rfl) (by have := pb p hp; omega)))) evr_int (by omega))

def L_law_kinds : Nat := 3
abbrev P_law_kinds : List Str := ["_law_script", "_law_at", "_law_most"]
theorem cal_law_kinds {P : Program} {w : World} {Z : Zt} {mg : Str → Option Value} {base : Heap} {f : Addr} {fd : FuncData} (F : Fun Z.K "_law_kinds" "_law_kinds" st_law_kinds f fd) (gf : mg "_law_kinds" = some (.ref f)) (T : Tx0 mg) (C_law_cell : Cal P w Z.K mg base "_law_cell" L_law_cell P_law_cell (Fs (S_law_cell Z))) (C_law_draws : Cal P w Z.K mg base "_law_draws" L_law_draws P_law_draws (Fs (S_law_draws Z))) : Cal P w Z.K mg base "_law_kinds" L_law_kinds P_law_kinds (Fs (S_law_kinds Z)) := by
  refine ⟨f, fd, gf, F.kp, F.binds fun _ _ _ _ _ _ us hl => match us, hl with | [_, _, _], _ => rfl, F.ok sc_law_kinds (fun vs H Q E h => Fs.len (S := S_law_kinds Z) (n := 3) (S_law_kinds_len Z) h) (fun cdv A outer s H vs Q E hr h => ⟨r_law_kinds Z, PSs.nox ?_, pure_law_kinds h⟩)⟩
  have hu := hr.units
  have hu65 := room65 hr
  have hu64 := room64 hr
  exact (pss_cons (ps_set (i := 3) sc_law_kinds.nd rfl (Or.inr rfl) (pe_cal C_law_draws (hr.mono (by decide)) (pa_cons (pe_cal C_law_cell (hr.mono (by decide)) (pa_cons (pv 0) (pa_cons (pv 1) pa_nil))) (pa_cons pe_int (pa_cons pe_int pa_nil))))) (pss_cons (ps_set (i := 4) sc_law_kinds.nd rfl (Or.inl rfl) (pe_op op_add pe_int (pe_op op_mod (pe_ix ix_list (pv 3) pe_int (fun _ _ => rfl)) (pe_op op_sub (pv 2) pe_int)))) (pss_cons (ps_set (i := 5) sc_law_kinds.nd rfl (Or.inl rfl) (pe_ix ix_list (pe_lst (pa_cons pe_int (pa_cons pe_int (pa_cons pe_int (pa_cons pe_int (pa_cons pe_int (pa_cons pe_int (pa_cons pe_int (pa_cons pe_int pa_nil))))))))) (pe_op op_mod (pe_ix ix_list (pv 3) pe_int (fun _ _ => rfl)) pe_int) (fun _ _ => rfl))) (pss_cons (ps_set (i := 6) sc_law_kinds.nd rfl (Or.inr rfl) (pe_ix ix_list (pe_lst (pa_cons pe_int (pa_cons pe_int (pa_cons pe_int (pa_cons pe_int pa_nil))))) (pe_op op_mod (pe_ix ix_list (pv 3) pe_int (fun _ _ => rfl)) pe_int) (fun _ _ => rfl))) (pss_cons (ps_set (i := 7) sc_law_kinds.nd rfl (Or.inl rfl) (pe_cal C_law_draws (hr.mono (by decide)) (pa_cons (pe_cal C_law_cell (hr.mono (by decide)) (pa_cons (pv 0) (pa_cons (pe_op op_add (pv 1) pe_int) pa_nil))) (pa_cons (pv 4) (pa_cons (pv 5) pa_nil))))) (pss_one (ps_ret (pe_lc (own := [("_law_pick", 8)]) (g := gName 8) (tt := tYes) rfl sc_law_kinds.nd (pi_list (pv 7)) (blkOk_by (own := [("_law_pick", 8)]) (N := N_law_kinds) (sc := defScope st_law_kinds) (by decide +kernel)) (fun _ _ _ _ _ => pg_name (i := 8) sc_law_kinds.nd rfl (Or.inl rfl)) (fun _ _ _ _ _ => pts_nil) (fun _ _ _ _ _ => (pe_op op_mod (pe_callTy call_int1 (by rfl) T.int (by decide +kernel) (pa_cons (pe_op op_add (pe_ix ix_list (pv 3) pe_int (fun _ _ => rfl)) (pe_op op_mul (pv 8) (pv 6))) pa_nil)) pe_int))))))))))


/-! ### _law_strand_kinds -/
abbrev st_law_strand_kinds : Stmt := topS 28
abbrev N_law_strand_kinds : List Str := ["_law_script", "_law_most", "_law_draws_here", "_law_fixed", "_law_step", "_law_k"]
theorem sc_law_strand_kinds : FnScope N_law_strand_kinds ["_law_script", "_law_most"] (defScope st_law_strand_kinds) := ⟨rfl, rfl, rfl, by decide +kernel, rfl, by decide +kernel, by decide +kernel⟩
def r_law_strand_kinds1 (Z : Zt) : TS := (tRet (tLc (iList Z.K (tOp (rIxL Z.K) (tVar 3) (tOp xMod (tOp (rIxL Z.K) (tVar 2) (tC (.int 5))) (tC (.int 13))))) (gName 5) tYes (tOp xMod (tCB xInt1 (tCons (tOp xAdd (tOp (rIxL Z.K) (tVar 2) (tC (.int 2))) (tOp xMul (tVar 5) (tVar 4))) tNil)) (tC (.int 1000))) [5]))
def r_law_strand_kinds2 (Z : Zt) : TS := (tSeq (tAsg (tOp (rIxL Z.K) (tLst (tCons (tC (.int 1)) (tCons (tC (.int 7)) (tCons (tC (.int 333)) (tCons (tC (.int 999)) tNil))))) (tOp xMod (tOp (rIxL Z.K) (tVar 2) (tC (.int 3))) (tC (.int 4)))) (gName 4)) (r_law_strand_kinds1 Z))
def r_law_strand_kinds3 (Z : Zt) : TS := (tSeq (tAsg (tOp rCat (tVar 3) (tLst (tCons (tLst (tCons (tC (.int 0)) (tCons (tC (.int 0)) (tCons (tC (.int 1)) (tCons (tC (.int 1)) (tCons (tC (.int 0)) (tCons (tC (.int 0)) tNil))))))) (tCons (tLst (tCons (tC (.int 0)) (tCons (tC (.int 1)) (tCons (tC (.int 2)) (tCons (tC (.int 0)) (tCons (tC (.int 1)) (tCons (tC (.int 2)) tNil))))))) (tCons (tLst (tCons (tC (.int 0)) (tCons (tC (.int 1)) (tCons (tC (.int 0)) (tCons (tC (.int 1)) (tCons (tC (.int 0)) (tCons (tC (.int 1)) tNil))))))) (tCons (tLst (tCons (tC (.int 2)) (tCons (tC (.int 0)) (tCons (tC (.int 1)) (tCons (tC (.int 0)) (tCons (tC (.int 1)) (tCons (tC (.int 0)) tNil))))))) (tCons (tLst (tCons (tC (.int 0)) (tCons (tC (.int 1)) (tCons (tC (.int 0)) (tCons (tC (.int 1)) (tCons (tC (.int 0)) (tCons (tC (.int 2)) tNil))))))) tNil))))))) (gName 3)) (r_law_strand_kinds2 Z))
def r_law_strand_kinds4 (Z : Zt) : TS := (tSeq (tAsg (tLst (tCons (tLst (tCons (tC (.int 0)) (tCons (tC (.int 0)) tNil))) (tCons (tLst (tCons (tC (.int 0)) (tCons (tC (.int 1)) tNil))) (tCons (tLst (tCons (tC (.int 0)) (tCons (tC (.int 0)) (tCons (tC (.int 0)) (tCons (tC (.int 0)) tNil))))) (tCons (tLst (tCons (tC (.int 0)) (tCons (tC (.int 1)) (tCons (tC (.int 0)) tNil)))) (tCons (tLst (tCons (tC (.int 0)) (tCons (tC (.int 1)) (tCons (tC (.int 2)) tNil)))) (tCons (tLst (tCons (tC (.int 0)) (tCons (tC (.int 1)) (tCons (tC (.int 0)) (tCons (tC (.int 1)) tNil))))) (tCons (tLst (tCons (tC (.int 0)) (tCons (tC (.int 1)) (tCons (tC (.int 0)) (tCons (tC (.int 2)) (tCons (tC (.int 0)) tNil)))))) (tCons (tLst (tCons (tC (.int 0)) (tCons (tC (.int 1)) (tCons (tC (.int 0)) (tCons (tC (.int 1)) (tCons (tC (.int 0)) tNil)))))) tNil))))))))) (gName 3)) (r_law_strand_kinds3 Z))
def r_law_strand_kinds5 (Z : Zt) : TS := (tSeq (tIfS (tTest (tOp xGt (tOp xMod (tOp (rIxL Z.K) (tVar 2) (tC (.int 4))) (tC (.int 3))) (tC (.int 0)))) (tRet (tCall (Fs (S_law_kinds Z)) [] E0 (tCons (tVar 0) (tCons (tC (.int 0)) (tCons (tVar 1) tNil))))) tNext) (r_law_strand_kinds4 Z))
def r_law_strand_kinds (Z : Zt) : TS := (tSeq (tAsg (tCall (Fs (S_law_draws Z)) [] E0 (tCons (tCall (Fs (S_law_cell Z)) [] E0 (tCons (tVar 0) (tCons (tC (.int 0)) tNil))) (tCons (tC (.int 6)) (tCons (tC (.int 1000)) tNil)))) (gName 2)) (r_law_strand_kinds5 Z))


def tLists : List (List Nat) → TA
  | [] => tNil
  | l :: ls => tCons (tLst (tInts l)) (tLists ls)
theorem eva_lists {env : List Sl} : ∀ ls : List (List Nat), (∀ l ∈ ls, l.length ≤ 100000) → EvAs (tLists ls) env ((ls.map dNs).map D)
  | [], _ => eva_nil
  | l :: ls, h => eva_cons (EvN.r (evn_ints l (h l List.mem_cons_self))) (eva_lists ls fun x hx => h x (List.mem_cons_of_mem _ hx))
theorem evn_lists {env : List Sl} (ls : List (List Nat)) (h : ∀ l ∈ ls, l.length ≤ 100000) (h2 : ls.length ≤ 100000) : EvN (tLst (tLists ls)) env (ls.map dNs) := evn_lst (eva_lists ls h) (by rw [List.length_map]; exact h2)
def fixA : List (List Nat) := [[0, 0], [0, 1], [0, 0, 0, 0], [0, 1, 0], [0, 1, 2], [0, 1, 0, 1], [0, 1, 0, 2, 0], [0, 1, 0, 1, 0]]
def fixB : List (List Nat) := [[0, 0, 1, 1, 0, 0], [0, 1, 2, 0, 1, 2], [0, 1, 0, 1, 0, 1], [2, 0, 1, 0, 1, 0], [0, 1, 0, 1, 0, 2]]
def S_law_strand_kinds (Z : Zt) (Rs : List Pr) (R : Pr) : Prop := ∃ (ns : List Int) (most : Nat), 6 ≤ most ∧ most ≤ 7 ∧ Rs = [Scr Z.K ns, D (dN most)] ∧ R = PK most
theorem S_law_strand_kinds_len (Z : Zt) (Rs : List Pr) (R : Pr) (h : S_law_strand_kinds Z Rs R) : Rs.length = 2 := by
  obtain ⟨_, _, _, _, rfl, _⟩ := h
  rfl
theorem pure_law_strand_kinds {Z : Zt} {vs : List V} {H : Hp} {Q : VK} {E : XK} (h : Fs (S_law_strand_kinds Z) vs H Q E) : r_law_strand_kinds Z { nx := fun _ H' => Q .non H', rt := Q } (L2.start N_law_strand_kinds vs) H := by
  obtain ⟨Rs, R, F, ⟨ns, most, hm, hm2, rfl, rfl⟩, e, a, q⟩ := h
  refine se_body (N := N_law_strand_kinds) (n := 6) rfl e a q ?_
  show SE F H _ [.has (Scr Z.K ns), .has (D (dN most)), .no, .no, .no, .no] _
  unfold r_law_strand_kinds
  refine sq_asg (R := PD 6 1000) (evr_call (Rs := [D (dI _), D (dN 6), D (dN 1000)]) (eva_cons (evr_call (Rs := [Scr Z.K ns, D (dN 0)]) (eva_cons (evr_var rfl) (eva_cons evr_int eva_nil)) ⟨ns, 0, rfl, rfl⟩) (eva_cons evr_int (eva_cons evr_int eva_nil))) ⟨_, 6, 1000, by omega, by omega, by omega, rfl, rfl⟩) ?_
  refine se_open 2 rfl fun sh hsh => ?_
  obtain ⟨sl, sb⟩ := hsh
  have hs : ∀ i, i < 6 → sh[i]? = some (sh.getD i 0) := fun i hi => getD_some (by omega)
  unfold r_law_strand_kinds5
  refine sq_ifx (evt_gt (evr_modN (n := 3) (evr_ixN (i := 4) (evr_var rfl) evr_int (hs 4 (by omega))) evr_int (by omega)) evr_int) (fun _ => ?_) fun _ => ?_
  · exact se_ret (evr_call (Rs := [Scr Z.K ns, D (dN 0), D (dN most)]) (eva_cons (evr_var rfl) (eva_cons evr_int (eva_cons (evr_var rfl) eva_nil))) ⟨ns, 0, most, by omega, by omega, rfl, rfl⟩)
  · unfold r_law_strand_kinds4
    refine sq_asg (R := D (.list (fixA.map dNs))) (EvN.r (evn_lists fixA (by decide) (by decide))) ?_
    unfold r_law_strand_kinds3
    refine sq_asg (R := D (.list ((fixA ++ fixB).map dNs))) (EvN.r (evn_catM (enc := dNs) (evr_var rfl) (EvN.r (evn_lists fixB (by decide) (by decide))) (by decide))) ?_
    unfold r_law_strand_kinds2
    refine sq_asg (R := D (dN (([1, 7, 333, 999] : List Nat).getD (sh.getD 3 0 % 4) 0))) (evr_ixN (EvN.r (evn_ints [1, 7, 333, 999] (by decide))) (evr_modN (n := 4) (evr_ixN (i := 3) (evr_var rfl) evr_int (hs 3 (by omega))) evr_int (by omega)) (getD_some (Nat.mod_lt _ (by decide)))) ?_
    generalize ([1, 7, 333, 999] : List Nat).getD (sh.getD 3 0 % 4) 0 = sp
    have hf : ∀ i < 13, ∃ l, (fixA ++ fixB)[i]? = some l ∧ 2 ≤ l.length ∧ l.length ≤ 6 ∧ ∀ x ∈ l, x < 100 := fun i hi => by
      have key : ∀ i < 13, (fixA ++ fixB)[i]? = some ((fixA ++ fixB).getD i []) ∧ 2 ≤ ((fixA ++ fixB).getD i []).length ∧ ((fixA ++ fixB).getD i []).length ≤ 6 ∧ ∀ x ∈ (fixA ++ fixB).getD i [], x < 100 := by decide
      exact ⟨_, key i hi⟩
    obtain ⟨l, l1, l2, l3, l4⟩ := hf (sh.getD 5 0 % 13) (Nat.mod_lt _ (by omega))
    unfold r_law_strand_kinds1
    refine se_ret (exp_in (z := l.map fun p => (((sh.getD 2 0 + p * sp) % 1000 : Nat) : Int)) ⟨by rw [List.length_map]; omega, by rw [List.length_map]; omega, fun x hx => ?_⟩ ?_)
    · obtain ⟨p, _, rfl⟩ := List.mem_map.mp hx
      have := Nat.mod_lt (sh.getD 2 0 + p * sp) (show 0 < 1000 by omega)
      omega
    · have e1 : dIs (l.map fun p => (((sh.getD 2 0 + p * sp) % 1000 : Nat) : Int)) = .list (l.map fun p => dN ((sh.getD 2 0 + p * sp) % 1000)) := by
        show PyData.list _ = _
        rw [List.map_map]
        rfl
      rw [e1]
      exact EvN.r (evn_lcLy (j := 5) dN (fun p => dN ((sh.getD 2 0 + p * sp) % 1000)) (evr_ixM (enc := dNs) (evr_var rfl) (evr_modN (n := 13) (evr_ixN (i := 5) (evr_var rfl) evr_int (hs 5 (by omega))) evr_int (by omega)) l1) (by omega) fun p hp => evr_modN (n := 1000) (evr_int1 (evr_addN (evr_ixN (i := 2) (evr_var rfl) evr_int (hs 2 (by omega))) (evr_mulN (evr_var rfl) (evr_var rfl) (by have := l4 p hp; omega)))) evr_int (by omega))

def L_law_strand_kinds : Nat := 4
abbrev P_law_strand_kinds : List Str := ["_law_script", "_law_most"]
theorem cal_law_strand_kinds {P : Program} {w : World} {Z : Zt} {mg : Str → Option Value} {base : Heap} {f : Addr} {fd : FuncData} (F : Fun Z.K "_law_strand_kinds" "_law_strand_kinds" st_law_strand_kinds f fd) (gf : mg "_law_strand_kinds" = some (.ref f)) (T : Tx0 mg) (C_law_cell : Cal P w Z.K mg base "_law_cell" L_law_cell P_law_cell (Fs (S_law_cell Z))) (C_law_draws : Cal P w Z.K mg base "_law_draws" L_law_draws P_law_draws (Fs (S_law_draws Z))) (C_law_kinds : Cal P w Z.K mg base "_law_kinds" L_law_kinds P_law_kinds (Fs (S_law_kinds Z))) : Cal P w Z.K mg base "_law_strand_kinds" L_law_strand_kinds P_law_strand_kinds (Fs (S_law_strand_kinds Z)) := by
  refine ⟨f, fd, gf, F.kp, F.binds fun _ _ _ _ _ _ us hl => match us, hl with | [_, _], _ => rfl, F.ok sc_law_strand_kinds (fun vs H Q E h => Fs.len (S := S_law_strand_kinds Z) (n := 2) (S_law_strand_kinds_len Z) h) (fun cdv A outer s H vs Q E hr h => ⟨r_law_strand_kinds Z, PSs.nox ?_, pure_law_strand_kinds h⟩)⟩
  have hu := hr.units
  have hu65 := room65 hr
  have hu64 := room64 hr
  exact (pss_cons (ps_set (i := 2) sc_law_strand_kinds.nd rfl (Or.inr rfl) (pe_cal C_law_draws (hr.mono (by decide)) (pa_cons (pe_cal C_law_cell (hr.mono (by decide)) (pa_cons (pv 0) (pa_cons pe_int pa_nil))) (pa_cons pe_int (pa_cons pe_int pa_nil))))) (pss_cons (ps_if (pt_cmpR op_gt (pe_op op_mod (pe_ix ix_list (pv 2) pe_int (fun _ _ => rfl)) pe_int) pe_int (nomark _)) (pss_one (ps_ret (pe_cal C_law_kinds (hr.mono (by decide)) (pa_cons (pv 0) (pa_cons pe_int (pa_cons (pv 1) pa_nil)))))) pss_nil) (pss_cons (ps_set (i := 3) sc_law_strand_kinds.nd rfl (Or.inl rfl) (pe_lst (pa_cons (pe_lst (pa_cons pe_int (pa_cons pe_int pa_nil))) (pa_cons (pe_lst (pa_cons pe_int (pa_cons pe_int pa_nil))) (pa_cons (pe_lst (pa_cons pe_int (pa_cons pe_int (pa_cons pe_int (pa_cons pe_int pa_nil))))) (pa_cons (pe_lst (pa_cons pe_int (pa_cons pe_int (pa_cons pe_int pa_nil)))) (pa_cons (pe_lst (pa_cons pe_int (pa_cons pe_int (pa_cons pe_int pa_nil)))) (pa_cons (pe_lst (pa_cons pe_int (pa_cons pe_int (pa_cons pe_int (pa_cons pe_int pa_nil))))) (pa_cons (pe_lst (pa_cons pe_int (pa_cons pe_int (pa_cons pe_int (pa_cons pe_int (pa_cons pe_int pa_nil)))))) (pa_cons (pe_lst (pa_cons pe_int (pa_cons pe_int (pa_cons pe_int (pa_cons pe_int (pa_cons pe_int pa_nil)))))) pa_nil)))))))))) (pss_cons (ps_set (i := 3) sc_law_strand_kinds.nd rfl (Or.inl rfl) (pe_op op_cat (pv 3) (pe_lst (pa_cons (pe_lst (pa_cons pe_int (pa_cons pe_int (pa_cons pe_int (pa_cons pe_int (pa_cons pe_int (pa_cons pe_int pa_nil))))))) (pa_cons (pe_lst (pa_cons pe_int (pa_cons pe_int (pa_cons pe_int (pa_cons pe_int (pa_cons pe_int (pa_cons pe_int pa_nil))))))) (pa_cons (pe_lst (pa_cons pe_int (pa_cons pe_int (pa_cons pe_int (pa_cons pe_int (pa_cons pe_int (pa_cons pe_int pa_nil))))))) (pa_cons (pe_lst (pa_cons pe_int (pa_cons pe_int (pa_cons pe_int (pa_cons pe_int (pa_cons pe_int (pa_cons pe_int pa_nil))))))) (pa_cons (pe_lst (pa_cons pe_int (pa_cons pe_int (pa_cons pe_int (pa_cons pe_int (pa_cons pe_int (pa_cons pe_int pa_nil))))))) pa_nil)))))))) (pss_cons (ps_set (i := 4) sc_law_strand_kinds.nd rfl (Or.inr rfl) (pe_ix ix_list (pe_lst (pa_cons pe_int (pa_cons pe_int (pa_cons pe_int (pa_cons pe_int pa_nil))))) (pe_op op_mod (pe_ix ix_list (pv 2) pe_int (fun _ _ => rfl)) pe_int) (fun _ _ => rfl))) (pss_one (ps_ret (pe_lc (own := [("_law_k", 5)]) (g := gName 5) (tt := tYes) rfl sc_law_strand_kinds.nd (pi_list (pe_ix ix_list (pv 3) (pe_op op_mod (pe_ix ix_list (pv 2) pe_int (fun _ _ => rfl)) pe_int) (fun _ _ => rfl))) (blkOk_by (own := [("_law_k", 5)]) (N := N_law_strand_kinds) (sc := defScope st_law_strand_kinds) (by decide +kernel)) (fun _ _ _ _ _ => pg_name (i := 5) sc_law_strand_kinds.nd rfl (Or.inl rfl)) (fun _ _ _ _ _ => pts_nil) (fun _ _ _ _ _ => (pe_op op_mod (pe_callTy call_int1 (by rfl) T.int (by decide +kernel) (pa_cons (pe_op op_add (pe_ix ix_list (pv 2) pe_int (fun _ _ => rfl)) (pe_op op_mul (pv 5) (pv 4))) pa_nil)) pe_int))))))))))


end Bm

/-! text BmD3 -/
set_option Elab.async false
set_option linter.all false
set_option maxRecDepth 100000
set_option maxHeartbeats 4000000
namespace Bm
open PySem PySem.Spec PyProof.Rows L2 Fz
/-! ### _law_orders -/
abbrev st_law_orders : Stmt := topS 27
abbrev N_law_orders : List Str := ["_law_items", "_law_rows", "_law_item", "_law_longer", "_law_row", "_law_at"]
theorem sc_law_orders : FnScope N_law_orders ["_law_items"] (defScope st_law_orders) := ⟨rfl, rfl, rfl, by decide +kernel, rfl, by decide +kernel, by decide +kernel⟩
def r_law_orders1 (Z : Zt) : TS := (tDrop (tBM Z.K "list" rAppend (tVar 3) (tCons (tOp rCat (tOp rCat (tSl (rSlL Z.K) (tVar 4) tNoPart (tPart (tVar 5))) (tLst (tCons (tVar 2) tNil))) (tSl (rSlL Z.K) (tVar 4) (tPart (tVar 5)) tNoPart)) tNil)))
def r_law_orders2 (Z : Zt) : TS := (tFor (iRng1 (tCons (tOp xAdd (tCB (rLenS Z.K) (tCons (tVar 4) tNil)) (tC (.int 1))) tNil)) (gName 5) (r_law_orders1 Z))
def r_law_orders3 (Z : Zt) : TS := (tAsg (tCB (xList Z.K) (tCons (tVar 3) tNil)) (gName 1))
def r_law_orders4 (Z : Zt) : TS := (tSeq (tFor (iList Z.K (tVar 1)) (gName 4) (r_law_orders2 Z)) (r_law_orders3 Z))
def r_law_orders5 (Z : Zt) : TS := (tSeq (tAsg (tLst tNil) (gName 3)) (r_law_orders4 Z))
def r_law_orders6 (Z : Zt) : TS := (tRet (tVar 1))
def r_law_orders7 (Z : Zt) : TS := (tSeq (tFor (iList Z.K (tVar 0)) (gName 2) (r_law_orders5 Z)) (r_law_orders6 Z))
def r_law_orders (Z : Zt) : TS := (tSeq (tAsg (tLst (tCons (tLst tNil) tNil)) (gName 1)) (r_law_orders7 Z))


def S_law_orders (_ : Zt) (Rs : List Pr) (R : Pr) : Prop := ∃ items : List Nat, OrdOk items ∧ Rs = [D (dNs items)] ∧ R = D (.list ((orders items).map dNs))
theorem S_law_orders_len (Z : Zt) (Rs : List Pr) (R : Pr) (h : S_law_orders Z Rs R) : Rs.length = 1 := by
  obtain ⟨_, _, rfl, _⟩ := h
  rfl
theorem flatMap_take_le {α β : Type} (f : α → List β) : ∀ (l : List α) (i : Nat), ((l.take i).flatMap f).length ≤ (l.flatMap f).length
  | [], i => by simp
  | x :: l, 0 => by simp
  | x :: l, i + 1 => by
    rw [List.take_succ_cons, List.flatMap_cons, List.flatMap_cons, List.length_append, List.length_append]
    have := flatMap_take_le f l i
    omega
theorem pure_law_orders {Z : Zt} {vs : List V} {H : Hp} {Q : VK} {E : XK} (h : Fs (S_law_orders Z) vs H Q E) : r_law_orders Z { nx := fun _ H' => Q .non H', rt := Q } (L2.start N_law_orders vs) H := by
  obtain ⟨Rs, R, F, ⟨items, ok, rfl, rfl⟩, e, a, q⟩ := h
  refine se_body (N := N_law_orders) (n := 6) rfl e a q ?_
  show SE F H _ [.has (D (dNs items)), .no, .no, .no, .no, .no] _
  unfold r_law_orders
  refine sq_asg (EvN.r (evn_one (d := dNs []) (EvN.r evn_nil))) ?_
  unfold r_law_orders7
  refine se_seq (fun env => ∃ x y z w, env = [.has (D (dNs items)), .has (D (.list ((orders items).map dNs))), x, y, z, w])
    (se_forLM dN (evr_var rfl) (fun i env => ∃ x y z w, env = [.has (D (dNs items)), .has (D (.list ((orders (items.take i)).map dNs))), x, y, z, w]) ⟨_, _, _, _, rfl⟩ (fun i it env' hi iv => ?_) fun env' iv => by rwa [List.take_length] at iv) ?_
  · obtain ⟨x, y, z, w, rfl⟩ := iv
    have hli := (List.getElem?_eq_some_iff.mp hi).1
    obtain ⟨o1, o2⟩ := ok.2 i (by omega)
    obtain ⟨p1, _⟩ := ok.2 (i + 1) (by omega)
    have e3 : orders (items.take (i + 1)) = (orders (items.take i)).flatMap (ins it) := by rw [take_succ' hi, orders_snoc]
    rw [e3] at p1
    rw [e3]
    generalize hrs : orders (items.take i) = rs at o1 o2 p1
    unfold r_law_orders5
    refine sq_own evn_nil ?_
    unfold r_law_orders4
    refine se_seq (fun env => ∃ z w, env = [.has (D (dNs items)), .has (D (.list (rs.map dNs))), .has (D (dN it)), .own ((rs.flatMap (ins it)).map dNs), z, w])
      (se_forLM dNs (evr_var rfl) (fun j env => ∃ z w, env = [.has (D (dNs items)), .has (D (.list (rs.map dNs))), .has (D (dN it)), .own (((rs.take j).flatMap (ins it)).map dNs), z, w]) ⟨_, _, rfl⟩ (fun j r env' hj iv => ?_) fun env' iv => by rwa [List.take_length] at iv) ?_
    · obtain ⟨z, w, rfl⟩ := iv
      have hr : r.length ≤ 100 := o2 r (List.mem_of_getElem? hj)
      have hb := flatMap_take_le (ins it) rs j
      generalize hbs : (rs.take j).flatMap (ins it) = bs at hb
      have e4 : (rs.take (j + 1)).flatMap (ins it) = bs ++ ins it r := by rw [take_succ' hj, List.flatMap_append, hbs]; simp
      rw [e4]
      unfold r_law_orders2
      refine se_forR1 (n := r.length + 1) (evr_addN (n := 1) (evr_lenM (evr_var rfl)) evr_int) (by omega) (fun m env => ∃ w, env = [.has (D (dNs items)), .has (D (.list (rs.map dNs))), .has (D (dN it)), .own ((bs ++ (List.range m).map (insAt it r)).map dNs), .has (D (dNs r)), w]) ⟨w, by simp⟩ (fun m env' hm iv => ?_) fun env' iv => ?_
      · obtain ⟨w, rfl⟩ := iv
        unfold r_law_orders1
        refine se_app (d := dNs (insAt it r m)) rfl (EvN.r (evn_catM (enc := dN) (EvN.r (evn_catM (enc := dN) (ys := [it]) (EvN.r (evn_takeM (enc := dN) (evr_var rfl) (evr_var rfl))) (EvN.r (evn_one (evr_var rfl))) (by simp; omega))) (EvN.r (evn_dropM (enc := dN) (evr_var rfl) (evr_var rfl))) (by simp; omega))) (by simp; omega) ⟨.has (D (.int (m : Int))), ?_⟩
        simp [List.range_succ]
      · obtain ⟨w, rfl⟩ := iv
        exact ⟨_, _, rfl⟩
    · rintro _ ⟨z, w, rfl⟩
      unfold r_law_orders3
      exact se_freeze 3 rfl (se_asg (EvN.r (evn_listM (evr_var rfl))) ⟨_, _, _, _, rfl⟩)
  · rintro _ ⟨x, y, z, w, rfl⟩
    unfold r_law_orders6
    exact se_ret (evr_var rfl)

def L_law_orders : Nat := 1
abbrev P_law_orders : List Str := ["_law_items"]
theorem cal_law_orders {P : Program} {w : World} {Z : Zt} {mg : Str → Option Value} {base : Heap} {f : Addr} {fd : FuncData} (F : Fun Z.K "_law_orders" "_law_orders" st_law_orders f fd) (gf : mg "_law_orders" = some (.ref f)) (T : Tx0 mg)  : Cal P w Z.K mg base "_law_orders" L_law_orders P_law_orders (Fs (S_law_orders Z)) := by
  refine ⟨f, fd, gf, F.kp, F.binds fun _ _ _ _ _ _ us hl => match us, hl with | [_], _ => rfl, F.ok sc_law_orders (fun vs H Q E h => Fs.len (S := S_law_orders Z) (n := 1) (S_law_orders_len Z) h) (fun cdv A outer s H vs Q E hr h => ⟨r_law_orders Z, PSs.nox ?_, pure_law_orders h⟩)⟩
  have hu := hr.units
  have hu65 := room65 hr
  have hu64 := room64 hr
  exact (pss_cons (ps_set (i := 1) sc_law_orders.nd rfl (Or.inl rfl) (pe_lst (pa_cons (pe_lst pa_nil) pa_nil))) (pss_cons (ps_for PassesOwn.never rfl (pi_list (pv 0)) (pg_name (i := 2) sc_law_orders.nd rfl (Or.inl rfl)) (pss_cons (ps_set (i := 3) sc_law_orders.nd rfl (Or.inl rfl) (pe_lst pa_nil)) (pss_cons (ps_for PassesOwn.never rfl (pi_list (pv 1)) (pg_name (i := 4) sc_law_orders.nd rfl (Or.inl rfl)) (pss_one (ps_for PassesOwn.never rfl (pi_range1 rfl T.range (pa_cons (pe_op op_add (pe_callB call_len_seq (by rfl) T.len PySem.boot_len (pa_cons (pv 4) pa_nil)) pe_int) pa_nil)) (pg_name (i := 5) sc_law_orders.nd rfl (Or.inl rfl)) (pss_one (ps_expr (pe_bm PySem.F.plainAttrs_list PySem.F.slot_list_append PySem.F.type_list_append mt_append (pv 3) (pa_cons (pe_op op_cat (pe_op op_cat (pe_slice sl_list (pv 4) po_none (po_some (pv 5))) (pe_lst (pa_cons (pv 2) pa_nil))) (pe_slice sl_list (pv 4) (po_some (pv 5)) po_none)) pa_nil))))))) (pss_one (ps_set (i := 1) sc_law_orders.nd rfl (Or.inl rfl) (pe_callTy call_list_of (by rfl) T.list (by decide +kernel) (pa_cons (pv 3) pa_nil))))))) (pss_one (ps_ret (pv 1)))))


end Bm

/-! text BmD4 -/
set_option Elab.async false
set_option linter.all false
set_option maxRecDepth 100000
set_option maxHeartbeats 4000000
namespace Bm
open PySem PySem.Spec PyProof.Rows L2 Fz
/-! ### _law_groups -/
abbrev st_law_groups : Stmt := topS 26
abbrev N_law_groups : List Str := ["_law_kinds_here", "_law_pairs", "_law_label", "_law_pair", "_law_one", "_law_two", "_law_groups_here", "_law_k", "_law_members", "_law_x"]
theorem sc_law_groups : FnScope N_law_groups ["_law_kinds_here", "_law_pairs"] (defScope st_law_groups) := ⟨rfl, rfl, rfl, by decide +kernel, rfl, by decide +kernel, by decide +kernel⟩
def r_law_groups1 (Z : Zt) : TS := (tIfS (tAnd (tTest (tOp rEq (tOp (rIxL Z.K) (tVar 0) (tOp (rIxT Z.K) (tVar 3) (tC (.int 0)))) (tOp (rIxL Z.K) (tVar 0) (tOp (rIxT Z.K) (tVar 3) (tC (.int 1)))))) (tTest (tOp rNe (tVar 4) (tVar 5)))) (tAsg (tLc (iList Z.K (tVar 2)) (gName 9) tYes (tIf (tTest (tOp rEq (tVar 9) (tCB xMax2 (tCons (tVar 4) (tCons (tVar 5) tNil))))) (tCB xMin2 (tCons (tVar 4) (tCons (tVar 5) tNil))) (tVar 9)) [9]) (gName 2)) tNext)
def r_law_groups2 (Z : Zt) : TS := (tSeq (tAsg (tOp (rIxL Z.K) (tVar 2) (tOp (rIxT Z.K) (tVar 3) (tC (.int 1)))) (gName 5)) (r_law_groups1 Z))
def r_law_groups3 (Z : Zt) : TS := (tSeq (tAsg (tOp (rIxL Z.K) (tVar 2) (tOp (rIxT Z.K) (tVar 3) (tC (.int 0)))) (gName 4)) (r_law_groups2 Z))
def r_law_groups4 (Z : Zt) : TS := (tIfS (tTest (tOp rEq (tOp (rIxL Z.K) (tVar 8) (tC (.int 0))) (tVar 7))) (tDrop (tBM Z.K "list" rAppend (tVar 6) (tCons (tThen (tVar 8) (kTup Z.K)) tNil))) tNext)
def r_law_groups5 (Z : Zt) : TS := (tSeq (tAsg (tLc (iRng1 (tCons (tCB (rLenS Z.K) (tCons (tVar 0) tNil)) tNil)) (gName 9) (tTest (tOp rEq (tOp (rIxL Z.K) (tVar 2) (tVar 9)) (tOp (rIxL Z.K) (tVar 2) (tVar 7)))) (tVar 9) [9]) (gName 8)) (r_law_groups4 Z))
def r_law_groups6 (Z : Zt) : TS := (tRet (tVar 6))
def r_law_groups7 (Z : Zt) : TS := (tSeq (tFor (iRng1 (tCons (tCB (rLenS Z.K) (tCons (tVar 0) tNil)) tNil)) (gName 7) (r_law_groups5 Z)) (r_law_groups6 Z))
def r_law_groups8 (Z : Zt) : TS := (tSeq (tAsg (tLst tNil) (gName 6)) (r_law_groups7 Z))
def r_law_groups9 (Z : Zt) : TS := (tSeq (tFor (iList Z.K (tVar 1)) (gName 3) (r_law_groups3 Z)) (r_law_groups8 Z))
def r_law_groups (Z : Zt) : TS := (tSeq (tAsg (tLstRg (tRg1 (tCB (rLenS Z.K) (tCons (tVar 0) tNil)))) (gName 2)) (r_law_groups9 Z))


def S_law_groups (_ : Zt) (Rs : List Pr) (R : Pr) : Prop := ∃ (ks : List Int) (prs : List (Nat × Nat)), ks.length ≤ 1000 ∧ (∀ q ∈ prs, q.1 < ks.length ∧ q.2 < ks.length) ∧ Rs = [D (dIs ks), D (.list (prs.map dP))] ∧ R = D (dRs (groups ks prs))
theorem S_law_groups_len (Z : Zt) (Rs : List Pr) (R : Pr) (h : S_law_groups Z Rs R) : Rs.length = 2 := by
  obtain ⟨_, _, _, _, rfl, _⟩ := h
  rfl
theorem pure_law_groups {Z : Zt} {vs : List V} {H : Hp} {Q : VK} {E : XK} (h : Fs (S_law_groups Z) vs H Q E) : r_law_groups Z { nx := fun _ H' => Q .non H', rt := Q } (L2.start N_law_groups vs) H := by
  obtain ⟨Rs, R, F, ⟨ks, prs, hn, hp, rfl, rfl⟩, e, a, q⟩ := h
  refine se_body (N := N_law_groups) (n := 10) rfl e a q ?_
  show SE F H _ [.has (D (dIs ks)), .has (D (.list (prs.map dP))), .no, .no, .no, .no, .no, .no, .no, .no] _
  unfold r_law_groups
  refine sq_asg (EvN.r (evn_range1 (n := ks.length) (evr_lenM (evr_var rfl)) (by omega))) ?_
  unfold r_law_groups9
  refine se_seq (fun env => ∃ x y z u v w s, env = [.has (D (dIs ks)), .has (D (.list (prs.map dP))), .has (D (dNs (lab (eqo ks) ks.length prs))), x, y, z, u, v, w, s])
    (se_forLM dP (evr_var rfl) (fun i env => ∃ x y z u v w s, env = [.has (D (dIs ks)), .has (D (.list (prs.map dP))), .has (D (dNs (lab (eqo ks) ks.length (prs.take i)))), x, y, z, u, v, w, s]) ⟨_, _, _, _, _, _, _, rfl⟩ (fun i p env' hi iv => ?_) fun env' iv => by rwa [List.take_length] at iv) ?_
  · obtain ⟨x, y, z, u, v, w, s, rfl⟩ := iv
    obtain ⟨hp1, hp2⟩ := hp p (List.mem_of_getElem? hi)
    have el : lab (eqo ks) ks.length (prs.take (i + 1)) = gstep (eqo ks) (lab (eqo ks) ks.length (prs.take i)) p := by
      rw [take_succ' hi]; unfold lab; rw [List.foldl_append]; rfl
    rw [el]
    have hl : (lab (eqo ks) ks.length (prs.take i)).length = ks.length := lab_len
    generalize lab (eqo ks) ks.length (prs.take i) = l at hl
    have h1 : l[p.1]? = some (l.getD p.1 0) := by rw [getD_lt (by omega)]; exact List.getElem?_eq_getElem _
    have h2 : l[p.2]? = some (l.getD p.2 0) := by rw [getD_lt (by omega)]; exact List.getElem?_eq_getElem _
    have k1 : ks[p.1]? = some (ks.getD p.1 0) := by rw [getD_lt (by omega)]; exact List.getElem?_eq_getElem _
    have k2 : ks[p.2]? = some (ks.getD p.2 0) := by rw [getD_lt (by omega)]; exact List.getElem?_eq_getElem _
    have eg : gstep (eqo ks) l p = if ((ks.getD p.1 0 == ks.getD p.2 0) && (l.getD p.1 0 != l.getD p.2 0)) = true then relabel l (l.getD p.1 0) (l.getD p.2 0) else l := by
      unfold gstep
      rw [eqo_at k1 k2]
    rw [eg]
    generalize l.getD p.1 0 = a1 at h1
    generalize l.getD p.2 0 = a2 at h2
    unfold r_law_groups3
    refine sq_asg (evr_ixN (evr_var rfl) (evr_p0 (evr_var rfl)) h1) ?_
    unfold r_law_groups2
    refine sq_asg (evr_ixN (evr_var rfl) (evr_p1 (evr_var rfl)) h2) ?_
    unfold r_law_groups1
    refine se_if (evt_and (evt_eqI (evr_ixI (evr_var rfl) (evr_p0 (evr_var rfl)) k1) (evr_ixI (evr_var rfl) (evr_p1 (evr_var rfl)) k2)) fun _ => evt_neN (evr_var rfl) (evr_var rfl)) (fun hb => ?_) fun hb => ?_
    · rw [if_pos hb]
      refine se_asg (R := D (dNs (relabel l a1 a2))) ?_ ⟨_, _, _, _, _, _, _, rfl⟩
      have em : (relabel l a1 a2).map dN = l.map fun x => dN (if x == max a1 a2 then min a1 a2 else x) := by unfold relabel; rw [List.map_map]; rfl
      show EvR _ _ (D (.list ((relabel l a1 a2).map dN)))
      rw [em]
      refine EvN.r (evn_lcLy dN (fun x => dN (if x == max a1 a2 then min a1 a2 else x)) (evr_var rfl) (by omega) fun x _ => ?_)
      refine evr_if (evt_eqN (evr_var rfl) (evr_maxN (evr_var rfl) (evr_var rfl))) (fun h => ?_) fun h => ?_
      · rw [if_pos h]; exact evr_minN (evr_var rfl) (evr_var rfl)
      · rw [if_neg (by rw [h]; exact Bool.false_ne_true)]; exact evr_var rfl
    · rw [if_neg (by rw [hb]; exact Bool.false_ne_true)]
      exact se_next ⟨_, _, _, _, _, _, _, rfl⟩
  · rintro _ ⟨x, y, z, u, v, w, s, rfl⟩
    unfold groups parts partsE
    have hl : (lab (eqo ks) ks.length prs).length = ks.length := lab_len
    generalize lab (eqo ks) ks.length prs = l at hl
    unfold r_law_groups8
    refine sq_own evn_nil ?_
    unfold r_law_groups7
    refine se_seq (fun env => ∃ x y z u v w, env = [.has (D (dIs ks)), .has (D (.list (prs.map dP))), .has (D (dNs l)), x, y, z, .own ((((List.range l.length).filter (ptIs (eqo l) l.length)).map (ptAt (eqo l) l.length)).map tNs), u, v, w])
      (se_forR1 (n := ks.length) (evr_lenM (evr_var rfl)) (by omega)
      (fun i env => ∃ x y z u v w, env = [.has (D (dIs ks)), .has (D (.list (prs.map dP))), .has (D (dNs l)), x, y, z, .own (ysOf (ptIs (eqo l) l.length) (fun k => tNs (ptAt (eqo l) l.length k)) (List.range l.length) i), u, v, w]) ⟨_, _, _, _, _, _, rfl⟩ (fun k env' hk iv => ?_) fun env' iv => ?_) ?_
    · obtain ⟨x, y, z, u, v, w, rfl⟩ := iv
      have hk' : k < l.length := by omega
      rw [ysOf_next (p := ptIs (eqo l) l.length) (i := k) (xs := List.range l.length) (by rw [List.getElem?_range hk'])]
      have hd : (ysOf (ptIs (eqo l) l.length) (fun k => tNs (ptAt (eqo l) l.length k)) (List.range l.length) k).length ≤ 1000 := Nat.le_trans ysOf_len (by rw [List.length_range]; omega)
      generalize ysOf (ptIs (eqo l) l.length) (fun k => tNs (ptAt (eqo l) l.length k)) (List.range l.length) k = ds at hd
      have hm : ∃ m ms, ptAt (eqo l) l.length k = m :: ms := by
        cases q : ptAt (eqo l) l.length k with
        | nil => exact absurd q (ptAt_ne hk' (eqo_refl l k))
        | cons m ms => exact ⟨m, ms, rfl⟩
      obtain ⟨m, ms, hm⟩ := hm
      have h0 : (ptAt (eqo l) l.length k)[0]? = some m := by rw [hm]; rfl
      have hi : ptIs (eqo l) l.length k = (m == k) := by unfold ptIs; rw [hm]; rfl
      rw [hi]
      unfold r_law_groups5
      refine sq_asg (R := D (dNs (ptAt (eqo l) l.length k))) ?_ ?_
      · have em : ptAt (eqo l) l.length k = (List.range ks.length).filter fun x => eqo l x k := by unfold ptAt; rw [hl]
        rw [em]
        refine EvN.r (evn_lcR1 (fun x => eqo l x k) dN (evr_lenM (evr_var rfl)) (by omega) (fun x hx => ?_) fun x hx _ => evr_var rfl)
        have ha : l[x]? = some l[x] := List.getElem?_eq_getElem (by omega)
        have hb : l[k]? = some l[k] := List.getElem?_eq_getElem (by omega)
        exact evt_is (evt_eqN (evr_ixN (evr_var rfl) (evr_var rfl) ha) (evr_ixN (evr_var rfl) (evr_var rfl) hb)) (eqo_at ha hb).symm
      · unfold r_law_groups4
        refine se_if (evt_eqN (evr_ixN (l := ptAt (eqo l) l.length k) (i := 0) (evr_var rfl) evr_int h0) (evr_var rfl)) (fun hb => ?_) fun hb => ?_
        · rw [if_pos hb]
          exact se_app rfl (evr_tupleL (evr_var rfl)) (by omega) ⟨_, _, _, _, _, _, rfl⟩
        · rw [if_neg (by rw [hb]; exact Bool.false_ne_true)]
          exact se_next ⟨_, _, _, _, _, _, rfl⟩
    · obtain ⟨x, y, z, u, v, w, rfl⟩ := iv
      have := ysOf_all (p := ptIs (eqo l) l.length) (f := fun k => tNs (ptAt (eqo l) l.length k)) (xs := List.range l.length)
      rw [List.length_range, hl] at this
      rw [← hl] at this
      rw [← hl, this, List.map_map]
      exact ⟨_, _, _, _, _, _, rfl⟩
    · rintro _ ⟨x, y, z, u, v, w, rfl⟩
      unfold r_law_groups6
      exact se_freeze 6 rfl (se_ret (evr_var rfl))

def L_law_groups : Nat := 1
abbrev P_law_groups : List Str := ["_law_kinds_here", "_law_pairs"]
theorem cal_law_groups {P : Program} {w : World} {Z : Zt} {mg : Str → Option Value} {base : Heap} {f : Addr} {fd : FuncData} (F : Fun Z.K "_law_groups" "_law_groups" st_law_groups f fd) (gf : mg "_law_groups" = some (.ref f)) (T : Tx0 mg)  : Cal P w Z.K mg base "_law_groups" L_law_groups P_law_groups (Fs (S_law_groups Z)) := by
  refine ⟨f, fd, gf, F.kp, F.binds fun _ _ _ _ _ _ us hl => match us, hl with | [_, _], _ => rfl, F.ok sc_law_groups (fun vs H Q E h => Fs.len (S := S_law_groups Z) (n := 2) (S_law_groups_len Z) h) (fun cdv A outer s H vs Q E hr h => ⟨r_law_groups Z, PSs.nox ?_, pure_law_groups h⟩)⟩
  have hu := hr.units
  have hu65 := room65 hr
  have hu64 := room64 hr
  exact (pss_cons (ps_set (i := 2) sc_law_groups.nd rfl (Or.inr rfl) (pe_listRg rfl rfl T.list (prg_1 rfl T.range (pe_callB call_len_seq (by rfl) T.len PySem.boot_len (pa_cons (pv 0) pa_nil))))) (pss_cons (ps_for PassesOwn.never rfl (pi_list (pv 1)) (pg_name (i := 3) sc_law_groups.nd rfl (Or.inl rfl)) (pss_cons (ps_set (i := 4) sc_law_groups.nd rfl (Or.inr rfl) (pe_ix ix_list (pv 2) (pe_ix ix_tup (pv 3) pe_int (fun _ _ => rfl)) (fun _ _ => rfl))) (pss_cons (ps_set (i := 5) sc_law_groups.nd rfl (Or.inr rfl) (pe_ix ix_list (pv 2) (pe_ix ix_tup (pv 3) pe_int (fun _ _ => rfl)) (fun _ _ => rfl))) (pss_one (ps_if (PW.pt (pw_and (pt_cmpR op_eq (pe_ix ix_list (pv 0) (pe_ix ix_tup (pv 3) pe_int (fun _ _ => rfl)) (fun _ _ => rfl)) (pe_ix ix_list (pv 0) (pe_ix ix_tup (pv 3) pe_int (fun _ _ => rfl)) (fun _ _ => rfl)) (nomark _)) (pw_and1 (pt_cmpR op_ne (pv 4) (pv 5) (nomark _))))) (pss_one (ps_set (i := 2) sc_law_groups.nd rfl (Or.inr rfl) (pe_lc (own := [("_law_x", 9)]) (g := gName 9) (tt := tYes) rfl sc_law_groups.nd (pi_list (pv 2)) (blkOk_by (own := [("_law_x", 9)]) (N := N_law_groups) (sc := defScope st_law_groups) (by decide +kernel)) (fun _ _ _ _ _ => pg_name (i := 9) sc_law_groups.nd rfl (Or.inl rfl)) (fun _ _ _ _ _ => pts_nil) (fun _ _ _ _ _ => (pe_ifExp (pt_cmpR op_eq (pv 9) (pe_callB (call_max2 rfl) (by rfl) T.max (by decide +kernel) (pa_cons (pv 4) (pa_cons (pv 5) pa_nil))) (nomark _)) (pe_callB (call_min2 rfl) (by rfl) T.min (by decide +kernel) (pa_cons (pv 4) (pa_cons (pv 5) pa_nil))) (pv 9)))))) pss_nil))))) (pss_cons (ps_set (i := 6) sc_law_groups.nd rfl (Or.inl rfl) (pe_lst pa_nil)) (pss_cons (ps_for PassesOwn.never rfl (pi_range1 rfl T.range (pa_cons (pe_callB call_len_seq (by rfl) T.len PySem.boot_len (pa_cons (pv 0) pa_nil)) pa_nil)) (pg_name (i := 7) sc_law_groups.nd rfl (Or.inr rfl)) (pss_cons (ps_setLc (i := 8) (own := [("_law_x", 9)]) (g := gName 9) (tt := (tTest (tOp rEq (tOp (rIxL Z.K) (tVar 2) (tVar 9)) (tOp (rIxL Z.K) (tVar 2) (tVar 7))))) rfl sc_law_groups.nd rfl rfl (sw_true rfl rfl rfl (by decide +kernel)) (pi_range1 rfl T.range (pa_cons (pe_callB call_len_seq (by rfl) T.len PySem.boot_len (pa_cons (pv 0) pa_nil)) pa_nil)) (blkOk_by (own := [("_law_x", 9)]) (N := N_law_groups) (sc := defScope st_law_groups) (by decide +kernel)) (fun _ _ _ _ _ => pg_name (i := 9) sc_law_groups.nd rfl (Or.inl rfl)) (fun _ _ _ _ _ => (pts_one (pt_cmpR op_eq (pe_ix ix_list (pv 2) (pv 9) (fun _ _ => rfl)) (pe_ix ix_list (pv 2) (pv 7) (fun _ _ => rfl)) (nomark _)))) (fun _ _ _ _ _ => (pv 9))) (pss_one (ps_if (pt_cmpR op_eq (pe_ix ix_list (pv 8) pe_int (fun _ _ => rfl)) (pv 7) (nomark _)) (pss_one (ps_expr (pe_bm PySem.F.plainAttrs_list PySem.F.slot_list_append PySem.F.type_list_append mt_append (pv 6) (pa_cons (pe_tupleOf rfl T.tuple (pv 8)) pa_nil)))) pss_nil)))) (pss_one (ps_ret (pv 6)))))))


end Bm

/-! text BmD6 -/
set_option Elab.async false
set_option linter.all false
set_option maxRecDepth 100000
set_option maxHeartbeats 4000000
namespace Bm
open PySem PySem.Spec PyProof.Rows L2 Fz
/-! ### _law_walk -/
abbrev st_law_walk : Stmt := topS 25
abbrev N_law_walk : List Str := ["_law_kinds_here", "_law_run", "_law_standing", "_law_marks", "_law_pairs", "_law_bead", "_law_at", "_law_left", "_law_right", "_law_k"]
theorem sc_law_walk : FnScope N_law_walk ["_law_kinds_here", "_law_run"] (defScope st_law_walk) := ⟨rfl, rfl, rfl, by decide +kernel, rfl, by decide +kernel, by decide +kernel⟩
def r_law_walk1 (Z : Zt) : TS := (tAsg (tOp rCat (tSl (rSlL Z.K) (tVar 2) tNoPart (tPart (tVar 6))) (tSl (rSlL Z.K) (tVar 2) (tPart (tOp xAdd (tVar 6) (tC (.int 1)))) tNoPart)) (gName 2))
def r_law_walk2 (Z : Zt) : TS := (tSeq (tDrop (tBM Z.K "list" rAppend (tVar 4) (tCons (tTup (tCons (tVar 7) (tCons (tVar 8) tNil))) tNil))) (r_law_walk1 Z))
def r_law_walk3 (Z : Zt) : TS := (tSeq (tDrop (tBM Z.K "list" rAppend (tVar 3) (tCons (tCall (Fs (S_law_mark Z)) [] E0 (tCons (tOp (rIxL Z.K) (tVar 0) (tVar 7)) (tCons (tOp (rIxL Z.K) (tVar 0) (tVar 5)) (tCons (tOp (rIxL Z.K) (tVar 0) (tVar 8)) tNil)))) tNil))) (r_law_walk2 Z))
def r_law_walk4 (Z : Zt) : TS := (tSeq (tAsg (tOp (rIxL Z.K) (tVar 2) (tOp xAdd (tVar 6) (tC (.int 1)))) (gName 8)) (r_law_walk3 Z))
def r_law_walk5 (Z : Zt) : TS := (tSeq (tAsg (tOp (rIxL Z.K) (tVar 2) (tOp xSub (tVar 6) (tC (.int 1)))) (gName 7)) (r_law_walk4 Z))
def r_law_walk6 (Z : Zt) : TS := (tSeq (tAsg (tBM Z.K "list" (rIndex Z.K) (tVar 2) (tCons (tVar 5) tNil)) (gName 6)) (r_law_walk5 Z))
def r_law_walk7 (Z : Zt) : TS := (tRet (tTup (tCons (tVar 3) (tCons (tVar 4) (tCons (tVar 2) tNil)))))
def r_law_walk8 (Z : Zt) : TS := (tSeq (tFor (iList Z.K (tVar 1)) (gName 5) (r_law_walk6 Z)) (r_law_walk7 Z))
def r_law_walk9 (Z : Zt) : TS := (tSeq (tAsg (tLc (iRng1 (tCons (tOp xSub (tCB (rLenS Z.K) (tCons (tVar 0) tNil)) (tC (.int 1))) tNil)) (gName 9) tYes (tTup (tCons (tVar 9) (tCons (tOp xAdd (tVar 9) (tC (.int 1))) tNil))) [9]) (gName 4)) (r_law_walk8 Z))
def r_law_walk10 (Z : Zt) : TS := (tSeq (tAsg (tLst tNil) (gName 3)) (r_law_walk9 Z))
def r_law_walk (Z : Zt) : TS := (tSeq (tAsg (tLstRg (tRg1 (tCB (rLenS Z.K) (tCons (tVar 0) tNil)))) (gName 2)) (r_law_walk10 Z))


def S_law_walk (_ : Zt) (Rs : List Pr) (R : Pr) : Prop := ∃ (ks : List Int) (run : List Nat), 2 ≤ ks.length ∧ ks.length ≤ 1000 ∧ RunOk ks.length run ∧ run.length ≤ 1000 ∧ Rs = [D (dIs ks), D (dNs run)] ∧
  R = ExP (fun _ : PyData × PyData => True) fun z => D (.tuple [z.1, .list ((walkPairs ks.length run).map dP), z.2])
theorem S_law_walk_len (Z : Zt) (Rs : List Pr) (R : Pr) (h : S_law_walk Z Rs R) : Rs.length = 2 := by
  obtain ⟨_, _, _, _, _, _, rfl, _⟩ := h
  rfl
theorem walkSt_snoc (n : Nat) (run : List Nat) (b : Nat) : walkSt n (run ++ [b]) = wstep (walkSt n run) b := by
  unfold walkSt
  rw [List.foldl_append]
  rfl
theorem pure_law_walk {Z : Zt} {vs : List V} {H : Hp} {Q : VK} {E : XK} (h : Fs (S_law_walk Z) vs H Q E) : r_law_walk Z { nx := fun _ H' => Q .non H', rt := Q } (L2.start N_law_walk vs) H := by
  obtain ⟨Rs, R, F, ⟨ks, run, hn, hn2, ok, hrl, rfl, rfl⟩, e, a, q⟩ := h
  refine se_body (N := N_law_walk) (n := 10) rfl e a q ?_
  show SE F H _ [.has (D (dIs ks)), .has (D (dNs run)), .no, .no, .no, .no, .no, .no, .no, .no] _
  unfold r_law_walk
  refine sq_asg (EvN.r (evn_range1 (n := ks.length) (evr_lenM (evr_var rfl)) (by omega))) ?_
  unfold r_law_walk10
  refine sq_own evn_nil ?_
  unfold r_law_walk9
  refine sq_own (ds := ((List.range (ks.length - 1)).map fun k => (k, k + 1)).map dP) ?_ ?_
  · rw [List.map_map]
    exact evn_lcRy (n := ks.length - 1) (fun k => dP (k, k + 1)) (evr_subN (n := 1) (evr_lenM (evr_var rfl)) evr_int (by omega)) (by omega) fun k hk => evr_tup2 (evr_var rfl) (evr_addN (n := 1) (evr_var rfl) evr_int)
  unfold r_law_walk8
  refine se_seq (fun env => ∃ (st : List Nat) (ms : List PyData) (x y z u w : Sl), ms.length ≤ 1000 ∧ env = [.has (D (dIs ks)), .has (D (dNs run)), .has (D (dNs st)), .own ms, .own ((walkPairs ks.length run).map dP), x, y, z, u, w])
    (se_forLM dN (evr_var rfl) (fun i env => ∃ (st : List Nat) (ms : List PyData) (x y z u w : Sl), ms.length ≤ i ∧ st = (walkSt ks.length (run.take i)).1 ∧ WOk ks.length st (run.drop i) ∧
      (walkPairs ks.length (run.take i)).length ≤ ks.length + i ∧ env = [.has (D (dIs ks)), .has (D (dNs run)), .has (D (dNs st)), .own ms, .own ((walkPairs ks.length (run.take i)).map dP), x, y, z, u, w])
      ⟨List.range ks.length, [], _, _, _, _, _, by simp, rfl, WOk.start hn ok, by show ((List.range (ks.length - 1)).map fun k => (k, k + 1)).length ≤ _; rw [List.length_map, List.length_range]; omega, rfl⟩ (fun i b env' hi iv => ?_) fun env' iv => ?_) ?_
  · obtain ⟨st, ms, x, y, z, u, w, hms, hst, wk, hpl, rfl⟩ := iv
    have hil := (List.getElem?_eq_some_iff.mp hi).1
    have hd : run.drop i = b :: run.drop (i + 1) := by
      rw [List.drop_eq_getElem_cons hil]
      have := (List.getElem?_eq_some_iff.mp hi).2
      rw [this]
    rw [hd] at wk
    have hbm : b ∈ run := List.mem_of_getElem? hi
    obtain ⟨b1, b2⟩ := ok.2 b hbm
    have hnot : b ∉ run.drop (i + 1) := fun hm => by
      have nd := ok.1
      rw [← List.take_append_drop i run, hd, List.nodup_append] at nd
      have := nd.2.1
      rw [List.nodup_cons] at this
      exact this.1 hm
    obtain ⟨p1, p2⟩ := wk.at_ b1 b2
    have wn := wk.next b1 b2 hnot
    have hbs := wk.has b List.mem_cons_self
    have hg : ∀ j, j < st.length → st[j]? = some (st.getD j 0) := fun j hj => by rw [getD_lt hj]; exact List.getElem?_eq_getElem hj
    have hlt : ∀ j, j < st.length → st.getD j 0 < ks.length := fun j hj => wk.lt _ (List.mem_of_getElem? (hg j hj))
    have hk : ∀ j, j < ks.length → ks[j]? = some (ks.getD j 0) := fun j hj => by rw [getD_lt hj]; exact List.getElem?_eq_getElem hj
    have es : walkSt ks.length (run.take (i + 1)) = (st.take (st.idxOf b) ++ st.drop (st.idxOf b + 1), walkPairs ks.length (run.take i) ++ [(st.getD (st.idxOf b - 1) 0, st.getD (st.idxOf b + 1) 0)]) := by
      rw [take_succ' hi, walkSt_snoc, hst]
      rfl
    have ep : walkPairs ks.length (run.take (i + 1)) = walkPairs ks.length (run.take i) ++ [(st.getD (st.idxOf b - 1) 0, st.getD (st.idxOf b + 1) 0)] := by
      show (walkSt ks.length (run.take (i + 1))).2 = _
      rw [es]
    have e1 : (walkSt ks.length (run.take (i + 1))).1 = st.take (st.idxOf b) ++ st.drop (st.idxOf b + 1) := by rw [es]
    have h1 := hg (st.idxOf b - 1) (by omega)
    have h2 := hg (st.idxOf b + 1) p2
    have h3 := hlt (st.idxOf b - 1) (by omega)
    have h4 := hlt (st.idxOf b + 1) p2
    rw [ep, e1]
    generalize walkPairs ks.length (run.take i) = prs at hpl
    generalize st.getD (st.idxOf b - 1) 0 = lf at h1 h3
    generalize st.getD (st.idxOf b + 1) 0 = rg at h2 h4
    have hstl : st.length ≤ 1000 := by
      have hsub : ∀ (l : List Nat) (m : Nat), l.Nodup → (∀ x ∈ l, x < m) → l.length ≤ m := by
        intro l m
        induction m generalizing l with
        | zero =>
          intro _ h
          cases l with
          | nil => simp
          | cons x l => exact absurd (h x List.mem_cons_self) (by omega)
        | succ m ih =>
          intro nd h
          have := ih (l.erase m) (nd.erase m) fun x hx => by
            have h1 := h x (List.mem_of_mem_erase hx)
            have h2 : x ≠ m := fun z => (List.Nodup.not_mem_erase nd) (z ▸ hx)
            omega
          have h3 := List.length_erase (a := m) (l := l)
          split at h3 <;> omega
      exact Nat.le_trans (hsub st ks.length wk.nd wk.lt) hn2
    unfold r_law_walk6
    refine sq_asg (evr_indexN (evr_var rfl) (evr_var rfl) hbs) ?_
    unfold r_law_walk5
    refine sq_asg (evr_ixN (evr_var rfl) (evr_subN (n := 1) (evr_var rfl) evr_int (by omega)) h1) ?_
    unfold r_law_walk4
    refine sq_asg (evr_ixN (evr_var rfl) (evr_addN (n := 1) (evr_var rfl) evr_int) h2) ?_
    unfold r_law_walk3
    refine sq_app (d := .str (mkOf (ks.getD lf 0) (ks.getD b 0) (ks.getD rg 0))) rfl (evr_call (Rs := [D (dI (ks.getD lf 0)), D (dI (ks.getD b 0)), D (dI (ks.getD rg 0))]) (eva_cons (evr_ixI (evr_var rfl) (evr_var rfl) (hk _ h3)) (eva_cons (evr_ixI (evr_var rfl) (evr_var rfl) (hk _ (by omega))) (eva_cons (evr_ixI (evr_var rfl) (evr_var rfl) (hk _ h4)) eva_nil))) ⟨_, _, _, rfl, rfl⟩) (by omega) ?_
    unfold r_law_walk2
    refine sq_app (d := dP (lf, rg)) rfl (evr_tup2 (evr_var rfl) (evr_var rfl)) (by rw [List.length_map]; omega) ?_
    unfold r_law_walk1
    have em : (prs ++ [(lf, rg)]).map dP = prs.map dP ++ [dP (lf, rg)] := by
      rw [List.map_append]
      rfl
    rw [em]
    refine se_asg (EvN.r (evn_catM (enc := dN) (EvN.r (evn_takeM (enc := dN) (evr_var rfl) (evr_var rfl))) (EvN.r (evn_dropM (enc := dN) (evr_var rfl) (evr_addN (n := 1) (evr_var rfl) evr_int))) (by rw [List.length_take, List.length_drop]; omega))) ⟨st.take (st.idxOf b) ++ st.drop (st.idxOf b + 1), ms ++ [.str (mkOf (ks.getD lf 0) (ks.getD b 0) (ks.getD rg 0))], _, _, _, _, _, by simp; omega, rfl, wn, by simp; omega, rfl⟩
  · obtain ⟨st, ms, x, y, z, u, w, hms, hst, wk, hpl, rfl⟩ := iv
    rw [List.take_length]
    exact ⟨st, ms, _, _, _, _, _, by omega, rfl⟩
  · rintro _ ⟨st, ms, x, y, z, u, w, hms, rfl⟩
    unfold r_law_walk7
    refine se_freeze 3 rfl (se_freeze 4 rfl (se_ret (exp_in (z := (.list ms, dNs st)) True.intro (evr_tup3 (evr_var rfl) (evr_var rfl) (evr_var rfl)))))

def L_law_walk : Nat := 2
abbrev P_law_walk : List Str := ["_law_kinds_here", "_law_run"]
theorem cal_law_walk {P : Program} {w : World} {Z : Zt} {mg : Str → Option Value} {base : Heap} {f : Addr} {fd : FuncData} (F : Fun Z.K "_law_walk" "_law_walk" st_law_walk f fd) (gf : mg "_law_walk" = some (.ref f)) (T : Tx0 mg) (C_law_mark : Cal P w Z.K mg base "_law_mark" L_law_mark P_law_mark (Fs (S_law_mark Z))) : Cal P w Z.K mg base "_law_walk" L_law_walk P_law_walk (Fs (S_law_walk Z)) := by
  refine ⟨f, fd, gf, F.kp, F.binds fun _ _ _ _ _ _ us hl => match us, hl with | [_, _], _ => rfl, F.ok sc_law_walk (fun vs H Q E h => Fs.len (S := S_law_walk Z) (n := 2) (S_law_walk_len Z) h) (fun cdv A outer s H vs Q E hr h => ⟨r_law_walk Z, PSs.nox ?_, pure_law_walk h⟩)⟩
  have hu := hr.units
  have hu65 := room65 hr
  have hu64 := room64 hr
  exact (pss_cons (ps_set (i := 2) sc_law_walk.nd rfl (Or.inl rfl) (pe_listRg rfl rfl T.list (prg_1 rfl T.range (pe_callB call_len_seq (by rfl) T.len PySem.boot_len (pa_cons (pv 0) pa_nil))))) (pss_cons (ps_set (i := 3) sc_law_walk.nd rfl (Or.inl rfl) (pe_lst pa_nil)) (pss_cons (ps_setLc (i := 4) (own := [("_law_k", 9)]) (g := gName 9) (tt := tYes) rfl sc_law_walk.nd rfl rfl (sw_true rfl rfl rfl (by decide +kernel)) (pi_range1 rfl T.range (pa_cons (pe_op op_sub (pe_callB call_len_seq (by rfl) T.len PySem.boot_len (pa_cons (pv 0) pa_nil)) pe_int) pa_nil)) (blkOk_by (own := [("_law_k", 9)]) (N := N_law_walk) (sc := defScope st_law_walk) (by decide +kernel)) (fun _ _ _ _ _ => pg_name (i := 9) sc_law_walk.nd rfl (Or.inl rfl)) (fun _ _ _ _ _ => pts_nil) (fun _ _ _ _ _ => (pe_tup (pa_cons (pv 9) (pa_cons (pe_op op_add (pv 9) pe_int) pa_nil))))) (pss_cons (ps_for PassesOwn.never rfl (pi_list (pv 1)) (pg_name (i := 5) sc_law_walk.nd rfl (Or.inl rfl)) (pss_cons (ps_set (i := 6) sc_law_walk.nd rfl (Or.inl rfl) (pe_bm PySem.F.plainAttrs_list PySem.F.slot_list_index PySem.F.type_list_index mt_index (pv 2) (pa_cons (pv 5) pa_nil))) (pss_cons (ps_set (i := 7) sc_law_walk.nd rfl (Or.inl rfl) (pe_ix ix_list (pv 2) (pe_op op_sub (pv 6) pe_int) (fun _ _ => rfl))) (pss_cons (ps_set (i := 8) sc_law_walk.nd rfl (Or.inl rfl) (pe_ix ix_list (pv 2) (pe_op op_add (pv 6) pe_int) (fun _ _ => rfl))) (pss_cons (ps_expr (pe_bm PySem.F.plainAttrs_list PySem.F.slot_list_append PySem.F.type_list_append mt_append (pv 3) (pa_cons (pe_cal C_law_mark (hr.mono (by decide)) (pa_cons (pe_ix ix_list (pv 0) (pv 7) (fun _ _ => rfl)) (pa_cons (pe_ix ix_list (pv 0) (pv 5) (fun _ _ => rfl)) (pa_cons (pe_ix ix_list (pv 0) (pv 8) (fun _ _ => rfl)) pa_nil)))) pa_nil))) (pss_cons (ps_expr (pe_bm PySem.F.plainAttrs_list PySem.F.slot_list_append PySem.F.type_list_append mt_append (pv 4) (pa_cons (pe_tup (pa_cons (pv 7) (pa_cons (pv 8) pa_nil))) pa_nil))) (pss_one (ps_set (i := 2) sc_law_walk.nd rfl (Or.inl rfl) (pe_op op_cat (pe_slice sl_list (pv 2) po_none (po_some (pv 6))) (pe_slice sl_list (pv 2) (po_some (pe_op op_add (pv 6) pe_int)) po_none)))))))))) (pss_one (ps_ret (pe_tup (pa_cons (pv 3) (pa_cons (pv 4) (pa_cons (pv 2) pa_nil))))))))))


end Bm

/-! text BmD9 -/
set_option Elab.async false
set_option linter.all false
set_option maxRecDepth 100000
set_option maxHeartbeats 4000000
namespace Bm
open PySem PySem.Spec PyProof.Rows L2 Fz
/-! ### _law_had -/
abbrev st_law_had : Stmt := topS 34
abbrev N_law_had : List Str := ["_law_kinds_here", "_law_had_here", "_law_run", "_law_rows"]
theorem sc_law_had : FnScope N_law_had ["_law_kinds_here"] (defScope st_law_had) := ⟨rfl, rfl, rfl, by decide +kernel, rfl, by decide +kernel, by decide +kernel⟩
def r_law_had1 (Z : Zt) : TS := (tIfS (tTest (tOp (rNotInD Z.K) (tVar 3) (tVar 1))) (tDrop (tBM Z.K "list" rAppend (tVar 1) (tCons (tVar 3) tNil))) tNext)
def r_law_had2 (Z : Zt) : TS := (tSeq (tAsg (tCall (Fs (S_law_groups Z)) [] E0 (tCons (tVar 0) (tCons (tOp (rIxT Z.K) (tCall (Fs (S_law_walk Z)) [] E0 (tCons (tVar 0) (tCons (tVar 2) tNil))) (tC (.int 1))) tNil))) (gName 3)) (r_law_had1 Z))
def r_law_had3 (Z : Zt) : TS := (tRet (tVar 1))
def r_law_had4 (Z : Zt) : TS := (tSeq (tFor (iList Z.K (tCall (Fs (S_law_orders Z)) [] E0 (tCons (tLstRg (tRg2 (tC (.int 1)) (tOp xSub (tCB (rLenS Z.K) (tCons (tVar 0) tNil)) (tC (.int 1))))) tNil))) (gName 2) (r_law_had2 Z)) (r_law_had3 Z))
def r_law_had (Z : Zt) : TS := (tSeq (tAsg (tLst tNil) (gName 1)) (r_law_had4 Z))


def itemsOf (n : Nat) : List Nat := (List.range (n - 2)).map fun k => 1 + k
def hstep (ks : List Int) (acc : List (List (List Nat))) (run : List Nat) : List (List (List Nat)) :=
  if groups ks (walkPairs ks.length run) ∈ acc then acc else acc ++ [groups ks (walkPairs ks.length run)]
def hadL (ks : List Int) : List (List (List Nat)) := (orders (itemsOf ks.length)).foldl (hstep ks) []
def ordB (items : List Nat) : Bool := decide (items.length ≤ 100) && (List.range (items.length + 1)).all fun i => decide ((orders (items.take i)).length ≤ 1000) && (orders (items.take i)).all fun r => decide (r.length ≤ 100)
theorem ordB_ok {items : List Nat} (h : ordB items = true) : OrdOk items := by
  unfold ordB at h
  rw [Bool.and_eq_true, List.all_eq_true] at h
  refine ⟨of_decide_eq_true h.1, fun i hi => ?_⟩
  have := h.2 i (List.mem_range.mpr (by omega))
  rw [Bool.and_eq_true, List.all_eq_true] at this
  exact ⟨of_decide_eq_true this.1, fun r hr => of_decide_eq_true (this.2 r hr)⟩
theorem items_ok : ∀ n, 2 ≤ n → n ≤ 7 → OrdOk (itemsOf n) := fun n h2 h7 => ordB_ok ((by decide +kernel : ∀ n < 8, 2 ≤ n → ordB (itemsOf n) = true) n (by omega) h2)
def runB (n : Nat) (run : List Nat) : Bool := decide run.Nodup && (run.all fun b => decide (1 ≤ b ∧ b + 2 ≤ n)) && decide (run.length ≤ 1000) && (walkPairs n run).all fun q => decide (q.1 < n ∧ q.2 < n)
theorem runs_all : ∀ n < 8, 2 ≤ n → ((orders (itemsOf n)).all (runB n)) = true := by decide +kernel
theorem runs_ok {n : Nat} {run : List Nat} (h2 : 2 ≤ n) (h7 : n ≤ 7) (h : run ∈ orders (itemsOf n)) : RunOk n run ∧ run.length ≤ 1000 ∧ ∀ q ∈ walkPairs n run, q.1 < n ∧ q.2 < n := by
  have := List.all_eq_true.mp (runs_all n (by omega) h2) run h
  unfold runB at this
  rw [Bool.and_eq_true, Bool.and_eq_true, Bool.and_eq_true, List.all_eq_true, List.all_eq_true] at this
  exact ⟨⟨of_decide_eq_true this.1.1.1, fun b hb => of_decide_eq_true (this.1.1.2 b hb)⟩, of_decide_eq_true this.1.2, fun q hq => of_decide_eq_true (this.2 q hq)⟩
def S_law_had (_ : Zt) (Rs : List Pr) (R : Pr) : Prop := ∃ ks : List Int, 2 ≤ ks.length ∧ ks.length ≤ 7 ∧ Rs = [D (dIs ks)] ∧ R = D (.list ((hadL ks).map dRs))
theorem S_law_had_len (Z : Zt) (Rs : List Pr) (R : Pr) (h : S_law_had Z Rs R) : Rs.length = 1 := by
  obtain ⟨_, _, _, rfl, _⟩ := h
  rfl
theorem pure_law_had {Z : Zt} {vs : List V} {H : Hp} {Q : VK} {E : XK} (h : Fs (S_law_had Z) vs H Q E) : r_law_had Z { nx := fun _ H' => Q .non H', rt := Q } (L2.start N_law_had vs) H := by
  obtain ⟨Rs, R, F, ⟨ks, h2, h7, rfl, rfl⟩, e, a, q⟩ := h
  refine se_body (N := N_law_had) (n := 4) rfl e a q ?_
  show SE F H _ [.has (D (dIs ks)), .no, .no, .no] _
  unfold r_law_had
  refine sq_own evn_nil ?_
  have oo := items_ok ks.length h2 h7
  have o1 := oo.2 _ (Nat.le_refl _)
  rw [List.take_length] at o1
  unfold r_law_had4
  refine se_seq (fun env => ∃ x y, env = [.has (D (dIs ks)), .own ((hadL ks).map dRs), x, y])
    (se_forLM dNs (xs := orders (itemsOf ks.length)) ?_ (fun i env => ∃ x y, (((orders (itemsOf ks.length)).take i).foldl (hstep ks) []).length ≤ i ∧ env = [.has (D (dIs ks)), .own ((((orders (itemsOf ks.length)).take i).foldl (hstep ks) []).map dRs), x, y])
      ⟨_, _, by simp, rfl⟩ (fun i run env' hi iv => ?_) fun env' iv => ?_) ?_
  · refine evr_call (Rs := [D (dNs (itemsOf ks.length))]) (eva_cons ?_ eva_nil) ⟨itemsOf ks.length, oo, rfl, rfl⟩
    have ei : (itemsOf ks.length).map dN = (List.range (ks.length - 2)).map fun k : Nat => PyData.int ((1 + k : Nat) : Int) := by unfold itemsOf; rw [List.map_map]; rfl
    show EvR _ _ (D (.list ((itemsOf ks.length).map dN)))
    rw [ei]
    exact EvN.r (evn_range2 (a := 1) (n := ks.length - 2) evr_int (evr_is (evr_subN (n := 1) (evr_lenM (evr_var rfl)) evr_int (by omega)) (by show PyData.int _ = PyData.int _; congr 1; omega)) (by omega))
  · obtain ⟨x, y, hl, rfl⟩ := iv
    have hil := (List.getElem?_eq_some_iff.mp hi).1
    obtain ⟨r1, r2, r3⟩ := runs_ok h2 h7 (List.mem_of_getElem? hi)
    rw [take_succ' hi, List.foldl_append]
    show SE _ _ _ _ { nx := fun env => ∃ x y, (hstep ks (((orders (itemsOf ks.length)).take i).foldl (hstep ks) []) run).length ≤ i + 1 ∧ env = [Sl.has (D (dIs ks)), .own ((hstep ks (((orders (itemsOf ks.length)).take i).foldl (hstep ks) []) run).map dRs), x, y], rt := _, bk := _, ct := _ }
    generalize ((orders (itemsOf ks.length)).take i).foldl (hstep ks) [] = acc at hl
    unfold r_law_had2
    refine sq_asg (R := D (dRs (groups ks (walkPairs ks.length run)))) (evr_call (Rs := [D (dIs ks), D (.list ((walkPairs ks.length run).map dP))]) (eva_cons (evr_var rfl) (eva_cons (evr_ixTE (f := fun z : PyData × PyData => [z.1, .list ((walkPairs ks.length run).map dP), z.2]) (a := 1)
      (evr_call (Rs := [D (dIs ks), D (dNs run)]) (eva_cons (evr_var rfl) (eva_cons (evr_var rfl) eva_nil)) ⟨ks, run, h2, by omega, r1, r2, rfl, rfl⟩) evr_int fun z _ => rfl) eva_nil)) ⟨ks, walkPairs ks.length run, by omega, r3, rfl, rfl⟩) ?_
    unfold hstep
    generalize groups ks (walkPairs ks.length run) = rows
    unfold r_law_had1
    refine se_if (b := !decide (rows ∈ acc)) (evt_own 1 rfl (evt_of (evr_notInH (evr_var rfl) (evr_var rfl)))) (fun hb => ?_) fun hb => ?_
    · have hb' : rows ∉ acc := fun hm => by rw [decide_eq_true hm] at hb; cases hb
      rw [if_neg hb']
      have em : (acc ++ [rows]).map dRs = acc.map dRs ++ [dRs rows] := by
        rw [List.map_append]
        rfl
      rw [em]
      exact se_app rfl (evr_var rfl) (by rw [List.length_map]; omega) ⟨_, _, by rw [List.length_append]; show acc.length + 1 ≤ _; omega, rfl⟩
    · have hb' : rows ∈ acc := by
        apply Decidable.byContradiction
        intro hm
        rw [decide_eq_false hm] at hb
        cases hb
      rw [if_pos hb']
      exact se_next ⟨_, _, by omega, rfl⟩
  · obtain ⟨x, y, _, rfl⟩ := iv
    rw [List.take_length]
    exact ⟨_, _, rfl⟩
  · rintro _ ⟨x, y, rfl⟩
    unfold r_law_had3
    exact se_freeze 1 rfl (se_ret (evr_var rfl))

def L_law_had : Nat := 4
abbrev P_law_had : List Str := ["_law_kinds_here"]
theorem cal_law_had {P : Program} {w : World} {Z : Zt} {mg : Str → Option Value} {base : Heap} {f : Addr} {fd : FuncData} (F : Fun Z.K "_law_had" "_law_had" st_law_had f fd) (gf : mg "_law_had" = some (.ref f)) (T : Tx0 mg) (C_law_orders : Cal P w Z.K mg base "_law_orders" L_law_orders P_law_orders (Fs (S_law_orders Z))) (C_law_walk : Cal P w Z.K mg base "_law_walk" L_law_walk P_law_walk (Fs (S_law_walk Z))) (C_law_groups : Cal P w Z.K mg base "_law_groups" L_law_groups P_law_groups (Fs (S_law_groups Z))) : Cal P w Z.K mg base "_law_had" L_law_had P_law_had (Fs (S_law_had Z)) := by
  refine ⟨f, fd, gf, F.kp, F.binds fun _ _ _ _ _ _ us hl => match us, hl with | [_], _ => rfl, F.ok sc_law_had (fun vs H Q E h => Fs.len (S := S_law_had Z) (n := 1) (S_law_had_len Z) h) (fun cdv A outer s H vs Q E hr h => ⟨r_law_had Z, PSs.nox ?_, pure_law_had h⟩)⟩
  have hu := hr.units
  have hu65 := room65 hr
  have hu64 := room64 hr
  exact (pss_cons (ps_set (i := 1) sc_law_had.nd rfl (Or.inl rfl) (pe_lst pa_nil)) (pss_cons (ps_for PassesOwn.never rfl (pi_list (pe_cal C_law_orders (hr.mono (by decide)) (pa_cons (pe_listRg rfl rfl T.list (prg_2 rfl T.range pe_int (pe_op op_sub (pe_callB call_len_seq (by rfl) T.len PySem.boot_len (pa_cons (pv 0) pa_nil)) pe_int))) pa_nil))) (pg_name (i := 2) sc_law_had.nd rfl (Or.inl rfl)) (pss_cons (ps_set (i := 3) sc_law_had.nd rfl (Or.inl rfl) (pe_cal C_law_groups (hr.mono (by decide)) (pa_cons (pv 0) (pa_cons (pe_ix ix_tup (pe_cal C_law_walk (hr.mono (by decide)) (pa_cons (pv 0) (pa_cons (pv 2) pa_nil))) pe_int (fun _ _ => rfl)) pa_nil)))) (pss_one (ps_if (pt_cmpR (op_notInD hu65) (pv 3) (pv 1) (by rfl)) (pss_one (ps_expr (pe_bm PySem.F.plainAttrs_list PySem.F.slot_list_append PySem.F.type_list_append mt_append (pv 1) (pa_cons (pv 3) pa_nil)))) pss_nil)))) (pss_one (ps_ret (pv 1)))))


end Bm

/-! text BmD1 -/
set_option Elab.async false
set_option linter.all false
set_option maxRecDepth 100000
set_option maxHeartbeats 4000000
namespace Bm
open PySem PySem.Spec PyProof.Rows L2 Fz
/-! ### _law_parts -/
abbrev st_law_parts : Stmt := topS 33
abbrev N_law_parts : List Str := ["_law_label", "_law_rows", "_law_k", "_law_members", "_law_x"]
theorem sc_law_parts : FnScope N_law_parts ["_law_label"] (defScope st_law_parts) := ⟨rfl, rfl, rfl, by decide +kernel, rfl, by decide +kernel, by decide +kernel⟩
def r_law_parts1 (Z : Zt) : TS := (tIfS (tTest (tOp rEq (tOp (rIxL Z.K) (tVar 3) (tC (.int 0))) (tVar 2))) (tDrop (tBM Z.K "list" rAppend (tVar 1) (tCons (tThen (tVar 3) (kTup Z.K)) tNil))) tNext)
def r_law_parts2 (Z : Zt) : TS := (tSeq (tAsg (tLc (iRng1 (tCons (tCB (rLenS Z.K) (tCons (tVar 0) tNil)) tNil)) (gName 4) (tTest (tOp rEq (tOp (rIxL Z.K) (tVar 0) (tVar 4)) (tOp (rIxL Z.K) (tVar 0) (tVar 2)))) (tVar 4) [4]) (gName 3)) (r_law_parts1 Z))
def r_law_parts3 (Z : Zt) : TS := (tRet (tVar 1))
def r_law_parts4 (Z : Zt) : TS := (tSeq (tFor (iRng1 (tCons (tCB (rLenS Z.K) (tCons (tVar 0) tNil)) tNil)) (gName 2) (r_law_parts2 Z)) (r_law_parts3 Z))
def r_law_parts (Z : Zt) : TS := (tSeq (tAsg (tLst tNil) (gName 1)) (r_law_parts4 Z))


def S_law_parts (_ : Zt) (Rs : List Pr) (R : Pr) : Prop := ∃ l : List Nat, l.length ≤ 1000 ∧ Rs = [D (dNs l)] ∧ R = D (dRs (parts l))
theorem S_law_parts_len (Z : Zt) (Rs : List Pr) (R : Pr) (h : S_law_parts Z Rs R) : Rs.length = 1 := by
  obtain ⟨l, _, rfl, _⟩ := h
  rfl
/-- the tail that groups and parts share -/
theorem parts_loop {F0 H0 : Hp} {Z : Zt} {l : List Nat} (hl : l.length ≤ 1000) {x y z : Sl} {P : Po} {ds : List PyData} (k : Nat) (hk : k < l.length)
    (h : ∀ z' , P.nx [.has (D (dNs l)), .own (if ptIs (eqo l) l.length k = true then ds ++ [tNs (ptAt (eqo l) l.length k)] else ds), .has (D (dN k)), .has (D (dNs (ptAt (eqo l) l.length k))), z']) (hd : ds.length ≤ 1000) :
    SE F0 H0 (r_law_parts2 Z) [.has (D (dNs l)), .own ds, .has (D (dN k)), y, z] P := by
  unfold r_law_parts2
  have e1 : EvN (tLc (iRng1 (tCons (tCB (Fz.rLenS Z.K) (tCons (tVar 0) tNil)) tNil)) (gName 4) (tTest (tOp rEq (tOp (rIxL Z.K) (tVar 0) (tVar 4)) (tOp (rIxL Z.K) (tVar 0) (tVar 2)))) (tVar 4) [4]) [.has (D (dNs l)), .own ds, .has (D (dN k)), y, z] (((List.range l.length).filter fun x => eqo l x k).map dN) := by
    refine evn_lcR1 (fun x => eqo l x k) dN (evr_lenM (evr_var rfl)) (by omega) (fun x hx => ?_) fun x hx _ => evr_var rfl
    obtain ⟨a, ha⟩ : ∃ a, l[x]? = some a := ⟨l[x], by simp [hx]⟩
    obtain ⟨b, hb⟩ : ∃ b, l[k]? = some b := ⟨l[k], by simp [hk]⟩
    exact evt_is (evt_eqI (evr_ixN (evr_var rfl) (evr_var rfl) ha) (evr_ixN (evr_var rfl) (evr_var rfl) hb)) (by rw [eqo_at ha hb, nbeq])
  refine sq_asg (EvN.r e1) ?_
  unfold r_law_parts1
  have hm : ∃ m ms, ptAt (eqo l) l.length k = m :: ms := by
    cases q : ptAt (eqo l) l.length k with
    | nil => exact absurd q (ptAt_ne hk (eqo_refl l k))
    | cons m ms => exact ⟨m, ms, rfl⟩
  obtain ⟨m, ms, hm⟩ := hm
  have h0 : (ptAt (eqo l) l.length k)[0]? = some m := by rw [hm]; rfl
  have hi : ptIs (eqo l) l.length k = (m == k) := by unfold ptIs; rw [hm]; rfl
  rw [hi] at h
  refine se_if (evt_eqI (evr_ixN (l := ptAt (eqo l) l.length k) (i := 0) (evr_var rfl) evr_int h0) (evr_var rfl)) (fun hb => ?_) fun hb => ?_
  · rw [nbeq] at hb
    refine se_app rfl (evr_tupleL (evr_var rfl)) (by omega) ?_
    have := h z
    rw [hb, if_pos rfl] at this
    exact this
  · rw [nbeq] at hb
    have := h z
    rw [hb] at this
    exact se_next this
theorem pure_law_parts {Z : Zt} {vs : List V} {H : Hp} {Q : VK} {E : XK} (h : Fs (S_law_parts Z) vs H Q E) : r_law_parts Z { nx := fun _ H' => Q .non H', rt := Q } (L2.start N_law_parts vs) H := by
  obtain ⟨Rs, R, F, ⟨l, hl, rfl, rfl⟩, e, a, q⟩ := h
  refine se_body (N := N_law_parts) (n := 5) rfl e a q ?_
  show SE F H _ [.has (D (dNs l)), .no, .no, .no, .no] _
  unfold r_law_parts
  refine sq_own evn_nil ?_
  unfold r_law_parts4
  refine se_seq (fun env => ∃ x y z, env = [.has (D (dNs l)), .own ((parts l).map tNs), x, y, z]) (se_forR1 (n := l.length) (evr_lenM (evr_var rfl)) (by omega)
    (fun i env => ∃ x y z, env = [.has (D (dNs l)), .own (ysOf (ptIs (eqo l) l.length) (fun k => tNs (ptAt (eqo l) l.length k)) (List.range l.length) i), x, y, z]) ⟨_, _, _, rfl⟩ (fun i env' hi iv => ?_) fun env' iv => ?_) ?_
  · obtain ⟨x, y, z, rfl⟩ := iv
    refine parts_loop hl (x := x) i hi (fun z' => ?_) (Nat.le_trans ysOf_len (by rw [List.length_range]; exact hl))
    show ∃ x y z, _ = [_, Sl.own (ysOf (ptIs (eqo l) l.length) (fun k => tNs (ptAt (eqo l) l.length k)) (List.range l.length) (i + 1)), x, y, z]
    rw [ysOf_next (p := ptIs (eqo l) l.length) (by rw [List.getElem?_range hi])]
    exact ⟨_, _, _, rfl⟩
  · obtain ⟨x, y, z, rfl⟩ := iv
    refine ⟨x, y, z, ?_⟩
    have := ysOf_all (p := ptIs (eqo l) l.length) (f := fun k => tNs (ptAt (eqo l) l.length k)) (xs := List.range l.length)
    rw [List.length_range] at this
    rw [this]
    unfold parts partsE
    rw [List.map_map]
    rfl
  · rintro _ ⟨x, y, z, rfl⟩
    unfold r_law_parts3
    exact se_freeze 1 rfl (se_ret (evr_var rfl))

def L_law_parts : Nat := 1
abbrev P_law_parts : List Str := ["_law_label"]
theorem cal_law_parts {P : Program} {w : World} {Z : Zt} {mg : Str → Option Value} {base : Heap} {f : Addr} {fd : FuncData} (F : Fun Z.K "_law_parts" "_law_parts" st_law_parts f fd) (gf : mg "_law_parts" = some (.ref f)) (T : Tx0 mg)  : Cal P w Z.K mg base "_law_parts" L_law_parts P_law_parts (Fs (S_law_parts Z)) := by
  refine ⟨f, fd, gf, F.kp, F.binds fun _ _ _ _ _ _ us hl => match us, hl with | [_], _ => rfl, F.ok sc_law_parts (fun vs H Q E h => Fs.len (S := S_law_parts Z) (n := 1) (S_law_parts_len Z) h) (fun cdv A outer s H vs Q E hr h => ⟨r_law_parts Z, PSs.nox ?_, pure_law_parts h⟩)⟩
  have hu := hr.units
  have hu65 := room65 hr
  have hu64 := room64 hr
  exact (pss_cons (ps_set (i := 1) sc_law_parts.nd rfl (Or.inl rfl) (pe_lst pa_nil)) (pss_cons (ps_for PassesOwn.never rfl (pi_range1 rfl T.range (pa_cons (pe_callB call_len_seq (by rfl) T.len PySem.boot_len (pa_cons (pv 0) pa_nil)) pa_nil)) (pg_name (i := 2) sc_law_parts.nd rfl (Or.inr rfl)) (pss_cons (ps_setLc (i := 3) (own := [("_law_x", 4)]) (g := gName 4) (tt := (tTest (tOp rEq (tOp (rIxL Z.K) (tVar 0) (tVar 4)) (tOp (rIxL Z.K) (tVar 0) (tVar 2))))) rfl sc_law_parts.nd rfl rfl (sw_true rfl rfl rfl (by decide +kernel)) (pi_range1 rfl T.range (pa_cons (pe_callB call_len_seq (by rfl) T.len PySem.boot_len (pa_cons (pv 0) pa_nil)) pa_nil)) (blkOk_by (own := [("_law_x", 4)]) (N := N_law_parts) (sc := defScope st_law_parts) (by decide +kernel)) (fun _ _ _ _ _ => pg_name (i := 4) sc_law_parts.nd rfl (Or.inl rfl)) (fun _ _ _ _ _ => (pts_one (pt_cmpR op_eq (pe_ix ix_list (pv 0) (pv 4) (fun _ _ => rfl)) (pe_ix ix_list (pv 0) (pv 2) (fun _ _ => rfl)) (nomark _)))) (fun _ _ _ _ _ => (pv 4))) (pss_one (ps_if (pt_cmpR op_eq (pe_ix ix_list (pv 3) pe_int (fun _ _ => rfl)) (pv 2) (nomark _)) (pss_one (ps_expr (pe_bm PySem.F.plainAttrs_list PySem.F.slot_list_append PySem.F.type_list_append mt_append (pv 1) (pa_cons (pe_tupleOf rfl T.tuple (pv 3)) pa_nil)))) pss_nil)))) (pss_one (ps_ret (pv 1)))))


end Bm

/-! text BmD5 -/
set_option Elab.async false
set_option linter.all false
set_option maxRecDepth 100000
set_option maxHeartbeats 4000000
namespace Bm
open PySem PySem.Spec PyProof.Rows L2 Fz
/-! ### _law_labels -/
abbrev st_law_labels : Stmt := topS 30
abbrev N_law_labels : List Str := ["_law_size", "_law_rows", "_law_label", "_law_at", "_law_k"]
theorem sc_law_labels : FnScope N_law_labels ["_law_size", "_law_rows"] (defScope st_law_labels) := ⟨rfl, rfl, rfl, by decide +kernel, rfl, by decide +kernel, by decide +kernel⟩
def r_law_labels1 (Z : Zt) : TS := (tAsg (tVar 3) (gSub (tVar 2) (tVar 4) rSetL))
def r_law_labels2 (Z : Zt) : TS := (tFor (iTup Z.K (tOp (rIxL Z.K) (tVar 1) (tVar 3))) (gName 4) (r_law_labels1 Z))
def r_law_labels3 (Z : Zt) : TS := (tRet (tVar 2))
def r_law_labels4 (Z : Zt) : TS := (tSeq (tFor (iRng1 (tCons (tCB (rLenS Z.K) (tCons (tVar 1) tNil)) tNil)) (gName 3) (r_law_labels2 Z)) (r_law_labels3 Z))
def r_law_labels (Z : Zt) : TS := (tSeq (tAsg (tOp rRep (tLst (tCons (tC (.int 0)) tNil)) (tVar 0)) (gName 2)) (r_law_labels4 Z))


def PNs (n : Nat) : Pr := ExP (fun l : List Nat => l.length = n) fun l => D (dNs l)
def S_law_labels (_ : Zt) (Rs : List Pr) (R : Pr) : Prop := ∃ (n : Nat) (rows : List (List Nat)), n ≤ 1000 ∧ rows.length ≤ 1000 ∧ (∀ r ∈ rows, ∀ x ∈ r, x < n) ∧ Rs = [D (dN n), D (dRs rows)] ∧ R = PNs n
theorem S_law_labels_len (Z : Zt) (Rs : List Pr) (R : Pr) (h : S_law_labels Z Rs R) : Rs.length = 2 := by
  obtain ⟨_, _, _, _, _, rfl, _⟩ := h
  rfl
theorem pure_law_labels {Z : Zt} {vs : List V} {H : Hp} {Q : VK} {E : XK} (h : Fs (S_law_labels Z) vs H Q E) : r_law_labels Z { nx := fun _ H' => Q .non H', rt := Q } (L2.start N_law_labels vs) H := by
  obtain ⟨Rs, R, F, ⟨n, rows, hn, hr, hx, rfl, rfl⟩, e, a, q⟩ := h
  refine se_body (N := N_law_labels) (n := 5) rfl e a q ?_
  show SE F H _ [.has (D (dN n)), .has (D (dRs rows)), .no, .no, .no] _
  unfold r_law_labels
  refine sq_own (evn_repN (x := 0) evr_int (evr_var rfl) (by omega)) ?_
  unfold r_law_labels4
  refine se_seq (fun env => ∃ (l : List Nat) (x y : Sl), l.length = n ∧ env = [.has (D (dN n)), .has (D (dRs rows)), .own (l.map dN), x, y])
    (se_forR1 (n := rows.length) (evr_lenM (evr_var rfl)) (by omega) (fun _ env => ∃ (l : List Nat) (x y : Sl), l.length = n ∧ env = [.has (D (dN n)), .has (D (dRs rows)), .own (l.map dN), x, y]) ⟨List.replicate n 0, _, _, by simp, rfl⟩ (fun i env' hi iv => ?_) fun env' iv => iv) ?_
  · obtain ⟨l, x, y, hl, rfl⟩ := iv
    have hri : rows[i]? = some rows[i] := List.getElem?_eq_getElem hi
    have hmem : ∀ z ∈ rows[i], z < n := hx _ (List.getElem_mem hi)
    generalize rows[i] = r at hri hmem
    unfold r_law_labels2
    have hrow : EvR (tOp (rIxL Z.K) (tVar 1) (tVar 3)) [.has (D (dN n)), .has (D (dRs rows)), .own (l.map dN), .has (D (dN i)), y] (D (tNs r)) := evr_ixM (enc := tNs) (evr_var rfl) (evr_var rfl) hri
    refine se_forTM dN hrow (fun _ env => ∃ (l : List Nat) (y : Sl), l.length = n ∧ env = [.has (D (dN n)), .has (D (dRs rows)), .own (l.map dN), .has (D (dN i)), y]) ⟨l, y, hl, rfl⟩ (fun j z env' hj iv => ?_) fun env' iv => ?_
    · obtain ⟨l, y, hl, rfl⟩ := iv
      have hz := hmem z (List.mem_of_getElem? hj)
      unfold r_law_labels1
      exact se_setL (k := z) rfl (evr_var rfl) (evr_var rfl) (by rw [List.length_map]; omega) ⟨l.set z i, .has (D (dN z)), by rw [List.length_set]; exact hl, by rw [List.map_set]; rfl⟩
    · obtain ⟨l, y, hl, rfl⟩ := iv
      exact ⟨l, _, _, hl, rfl⟩
  · rintro _ ⟨l, x, y, hl, rfl⟩
    unfold r_law_labels3
    exact se_freeze 2 rfl (se_ret (exp_in (z := l) hl (evr_var rfl)))

def L_law_labels : Nat := 1
abbrev P_law_labels : List Str := ["_law_size", "_law_rows"]
theorem cal_law_labels {P : Program} {w : World} {Z : Zt} {mg : Str → Option Value} {base : Heap} {f : Addr} {fd : FuncData} (F : Fun Z.K "_law_labels" "_law_labels" st_law_labels f fd) (gf : mg "_law_labels" = some (.ref f)) (T : Tx0 mg)  : Cal P w Z.K mg base "_law_labels" L_law_labels P_law_labels (Fs (S_law_labels Z)) := by
  refine ⟨f, fd, gf, F.kp, F.binds fun _ _ _ _ _ _ us hl => match us, hl with | [_, _], _ => rfl, F.ok sc_law_labels (fun vs H Q E h => Fs.len (S := S_law_labels Z) (n := 2) (S_law_labels_len Z) h) (fun cdv A outer s H vs Q E hr h => ⟨r_law_labels Z, PSs.nox ?_, pure_law_labels h⟩)⟩
  have hu := hr.units
  have hu65 := room65 hr
  have hu64 := room64 hr
  exact (pss_cons (ps_set (i := 2) sc_law_labels.nd rfl (Or.inl rfl) (pe_op op_rep (pe_lst (pa_cons pe_int pa_nil)) (pv 0))) (pss_cons (ps_for PassesOwn.never rfl (pi_range1 rfl T.range (pa_cons (pe_callB call_len_seq (by rfl) T.len PySem.boot_len (pa_cons (pv 1) pa_nil)) pa_nil)) (pg_name (i := 3) sc_law_labels.nd rfl (Or.inl rfl)) (pss_one (ps_for PassesOwn.never rfl (pi_tup (pe_ix ix_list (pv 1) (pv 3) (fun _ _ => rfl))) (pg_name (i := 4) sc_law_labels.nd rfl (Or.inl rfl)) (pss_one (ps_asg (pv 3) (pg_sub (pv 2) (pv 4) set_list)))))) (pss_one (ps_ret (pv 2)))))


/-! ### _law_crossing -/
abbrev st_law_crossing : Stmt := topS 29
abbrev N_law_crossing : List Str := ["_law_label", "_law_size", "_law_p", "_law_later", "_law_q", "_law_inner", "_law_after", "_law_r", "_law_x", "_law_s"]
theorem sc_law_crossing : FnScope N_law_crossing ["_law_label"] (defScope st_law_crossing) := ⟨rfl, rfl, rfl, by decide +kernel, rfl, by decide +kernel, by decide +kernel⟩
def r_law_crossing1 (Z : Zt) : TS := (tIfS (tTest (tOp (rNeD Z.K) (tVar 6) (tLst tNil))) (tRet (tTup (tCons (tC (.int 3)) (tCons (tTup (tCons (tVar 2) (tCons (tVar 4) (tCons (tOp (rIxL Z.K) (tVar 5) (tC (.int 0))) (tCons (tOp (rIxL Z.K) (tVar 6) (tC (.int 0))) tNil))))) tNil)))) tNext)
def r_law_crossing2 (Z : Zt) : TS := (tSeq (tAsg (tLc (iRng2 (tCons (tOp xAdd (tOp (rIxL Z.K) (tVar 5) (tC (.int 0))) (tC (.int 1))) (tCons (tVar 1) tNil))) (gName 9) (tTest (tOp rEq (tOp (rIxL Z.K) (tVar 0) (tVar 9)) (tOp (rIxL Z.K) (tVar 0) (tVar 4)))) (tVar 9) [9]) (gName 6)) (r_law_crossing1 Z))
def r_law_crossing3 (Z : Zt) : TS := (tSeq (tAsg (tLc (iList Z.K (tVar 3)) (gName 7) (tTest (tOp xGt (tVar 7) (tVar 4))) (tVar 7) [7]) (gName 5)) (r_law_crossing2 Z))
def r_law_crossing4 (Z : Zt) : TS := (tIfS (tTest (tOp (rNeD Z.K) (tVar 3) (tLst tNil))) (tFor (iList Z.K (tLc (iRng2 (tCons (tOp xAdd (tVar 2) (tC (.int 1))) (tCons (tOp (rIxL Z.K) (tVar 3) (tUn xNeg (tC (.int 1)))) tNil))) (gName 8) (tTest (tOp rNe (tOp (rIxL Z.K) (tVar 0) (tVar 8)) (tOp (rIxL Z.K) (tVar 0) (tVar 2)))) (tVar 8) [8])) (gName 4) (r_law_crossing3 Z)) tNext)
def r_law_crossing5 (Z : Zt) : TS := (tSeq (tAsg (tLc (iRng2 (tCons (tOp xAdd (tVar 2) (tC (.int 1))) (tCons (tVar 1) tNil))) (gName 7) (tTest (tOp rEq (tOp (rIxL Z.K) (tVar 0) (tVar 7)) (tOp (rIxL Z.K) (tVar 0) (tVar 2)))) (tVar 7) [7]) (gName 3)) (r_law_crossing4 Z))
def r_law_crossing6 (Z : Zt) : TS := (tRet (tC .non))
def r_law_crossing7 (Z : Zt) : TS := (tSeq (tFor (iRng1 (tCons (tVar 1) tNil)) (gName 2) (r_law_crossing5 Z)) (r_law_crossing6 Z))
def r_law_crossing (Z : Zt) : TS := (tSeq (tAsg (tCB (rLenS Z.K) (tCons (tVar 0) tNil)) (gName 1)) (r_law_crossing7 Z))


/-- None or an object -/
def PNo : Pr := ⟨fun v _ => v = .non ∨ ∃ a, v = .ref a, fun _ h => h⟩
def S_law_crossing (_ : Zt) (Rs : List Pr) (R : Pr) : Prop := ∃ l : List Nat, l.length ≤ 1000 ∧ Rs = [D (dNs l)] ∧ R = PNo
theorem S_law_crossing_len (Z : Zt) (Rs : List Pr) (R : Pr) (h : S_law_crossing Z Rs R) : Rs.length = 1 := by
  obtain ⟨_, _, rfl, _⟩ := h
  rfl
theorem pure_law_crossing {Z : Zt} {vs : List V} {H : Hp} {Q : VK} {E : XK} (h : Fs (S_law_crossing Z) vs H Q E) : r_law_crossing Z { nx := fun _ H' => Q .non H', rt := Q } (L2.start N_law_crossing vs) H := by
  obtain ⟨Rs, R, F, ⟨l, hl, rfl, rfl⟩, e, a, q⟩ := h
  refine se_body (N := N_law_crossing) (n := 10) rfl e a q ?_
  show SE F H _ [.has (D (dNs l)), .no, .no, .no, .no, .no, .no, .no, .no, .no] _
  unfold r_law_crossing
  refine sq_asg (evr_lenM (evr_var rfl)) ?_
  unfold r_law_crossing7
  refine se_seq (fun env => True) (se_forR1 (n := l.length) (evr_var rfl) (by omega) (fun _ env => ∃ x1 x2 x3 x4 x5 x6 x7 x8, env = [.has (D (dNs l)), .has (D (dN l.length)), x1, x2, x3, x4, x5, x6, x7, x8]) ⟨_, _, _, _, _, _, _, _, rfl⟩ (fun p env' hp iv => ?_) fun _ _ => True.intro) ?_
  · obtain ⟨x1, x2, x3, x4, x5, x6, x7, x8, rfl⟩ := iv
    have at_ : ∀ i, i < l.length → l[i]? = some (l.getD i 0) := fun i hi => by rw [getD_lt hi]; exact List.getElem?_eq_getElem hi
    have hpe : ((p : Int) + 1) = ((p + 1 : Nat) : Int) := by omega
    have hse : (l.length : Int) = ((p + 1 : Nat) : Int) + ((l.length - (p + 1) : Nat) : Int) := by omega
    have hx1 : ∀ (env : List Sl), env[2]? = some (.has (D (dN p))) → EvR (tOp xAdd (tVar 2) (tC (.int 1))) env (D (.int ((p + 1 : Nat) : Int))) := fun env h => evr_is (evr_add (evr_var h) evr_int) (by rw [hpe])
    unfold r_law_crossing5
    generalize hlt : (List.range' (p + 1) (l.length - (p + 1))).filter (fun r => l.getD r 0 == l.getD p 0) = later
    refine sq_asg (R := D (dNs later)) ?_ ?_
    · rw [← hlt]
      refine EvN.r (evn_lcR2 (fun r => l.getD r 0 == l.getD p 0) dN (hx1 _ rfl) (evr_is (evr_var (R := D (dN l.length)) rfl) (by rw [← hse])) (by omega) (fun k hk => ?_) fun k hk _ => evr_var rfl)
      exact evt_eqN (evr_ixN (evr_var rfl) (evr_var rfl) (at_ _ (by omega))) (evr_ixN (evr_var rfl) (evr_var rfl) (at_ _ hp))
    · unfold r_law_crossing4
      refine se_if (evt_neNil (evr_var rfl)) (fun hne => ?_) fun _ => se_next ⟨_, _, _, _, _, _, _, _, rfl⟩
      have hne' : later ≠ [] := by simpa using hne
      have hmem : ∀ r ∈ later, p + 1 ≤ r ∧ r < l.length := fun r hr => by
        rw [← hlt, List.mem_filter, List.mem_range'_1] at hr
        omega
      have hll : later.length ≤ 1000 := by
        rw [← hlt]
        exact Nat.le_trans (List.length_filter_le _ _) (by rw [List.length_range']; omega)
      have hpos : 0 < later.length := List.length_pos_iff.mpr hne'
      have hz : later[later.length - 1]? = some later[later.length - 1] := List.getElem?_eq_getElem (by omega)
      have hzm : later[later.length - 1] ∈ later := List.getElem_mem _
      generalize later[later.length - 1] = z at hz hzm
      obtain ⟨z1, z2⟩ := hmem z hzm
      have hze : (z : Int) = ((p + 1 : Nat) : Int) + ((z - (p + 1) : Nat) : Int) := by omega
      refine se_forLM dN (K := Z.K) (xs := (List.range' (p + 1) (z - (p + 1))).filter fun x => l.getD x 0 != l.getD p 0) (EvN.r (evn_lcR2 (fun x => l.getD x 0 != l.getD p 0) dN (hx1 _ rfl) (evr_is (evr_ixL (d := dN z) (evr_var (R := D (dNs later)) rfl) (evr_neg evr_int) ?_) (by rw [← hze])) (by omega) (fun k hk => ?_) fun k hk _ => evr_var rfl))
        (fun _ env => ∃ x4 x5 x6 x7 x8 x9, env = [.has (D (dNs l)), .has (D (dN l.length)), .has (D (dN p)), .has (D (dNs later)), x4, x5, x6, x7, x8, x9]) ⟨_, _, _, _, _, _, rfl⟩ (fun i qq env' hi iv => ?_) fun env' iv => ?_
      · have := at_last hz
        exact at_last (x := dN z) (by rw [List.length_map, List.getElem?_map, hz]; rfl)
      · exact evt_neN (evr_ixN (evr_var rfl) (evr_var rfl) (at_ _ (by omega))) (evr_ixN (evr_var rfl) (evr_var rfl) (at_ _ hp))
      · obtain ⟨x4, x5, x6, x7, x8, x9, rfl⟩ := iv
        have hq := List.mem_of_getElem? hi
        rw [List.mem_filter, List.mem_range'_1] at hq
        have hq1 : qq < z := by omega
        unfold r_law_crossing3
        generalize hin : later.filter (fun r : Nat => decide ((qq : Int) < (r : Int))) = inner
        refine sq_asg (R := D (dNs inner)) ?_ ?_
        · rw [← hin]
          exact EvN.r (evn_lcL dN (fun r : Nat => decide ((qq : Int) < (r : Int))) dN (evr_var rfl) (by omega) (fun r _ => evt_gt (evr_var rfl) (evr_var rfl)) fun r _ _ => evr_var rfl)
        · have hzi : z ∈ inner := by
            rw [← hin, List.mem_filter]
            exact ⟨hzm, decide_eq_true (by omega)⟩
          have hip : 0 < inner.length := List.length_pos_of_mem hzi
          have h0 : inner[0]? = some inner[0] := List.getElem?_eq_getElem hip
          have h0m : inner[0] ∈ inner := List.getElem_mem _
          generalize inner[0] = m at h0 h0m
          rw [← hin, List.mem_filter] at h0m
          have hm := hmem m h0m.1
          have hme : (l.length : Int) = ((m + 1 : Nat) : Int) + ((l.length - (m + 1) : Nat) : Int) := by omega
          unfold r_law_crossing2
          generalize haf : (List.range' (m + 1) (l.length - (m + 1))).filter (fun s => l.getD s 0 == l.getD qq 0) = after
          refine sq_asg (R := D (dNs after)) ?_ ?_
          · rw [← haf]
            refine EvN.r (evn_lcR2 (fun s => l.getD s 0 == l.getD qq 0) dN (evr_is (evr_add (evr_ixN (i := 0) (evr_var (R := D (dNs inner)) rfl) evr_int h0) evr_int) (by rw [show (m : Int) + 1 = ((m + 1 : Nat) : Int) by omega])) (evr_is (evr_var (R := D (dN l.length)) rfl) (by rw [← hme])) (by omega) (fun k hk => ?_) fun k hk _ => evr_var rfl)
            exact evt_eqN (evr_ixN (evr_var rfl) (evr_var rfl) (at_ _ (by omega))) (evr_ixN (evr_var rfl) (evr_var rfl) (at_ _ (by omega)))
          · unfold r_law_crossing1
            refine se_if (evt_neNil (evr_var rfl)) (fun hna => ?_) fun _ => se_next ⟨_, _, _, _, _, _, rfl⟩
            have hna' : after ≠ [] := by simpa using hna
            obtain ⟨f0, ha0⟩ : ∃ f0, after[0]? = some f0 := ⟨_, List.getElem?_eq_getElem (List.length_pos_iff.mpr hna')⟩
            refine se_ret (EvR.imp (R := D (.tuple [.int 3, .tuple [dN p, dN qq, dN m, dN f0]])) (evr_tup2 evr_int (evr_tup (ds := [dN p, dN qq, dN m, dN f0]) (eva_cons (evr_var rfl) (eva_cons (evr_var rfl) (eva_cons (evr_ixN (i := 0) (evr_var (R := D (dNs inner)) rfl) evr_int h0) (eva_cons (evr_ixN (i := 0) (evr_var (R := D (dNs after)) rfl) evr_int ha0) eva_nil)))) (by show 4 ≤ _; decide))) fun v F r => ?_)
            cases r with
            | tup _ _ => exact .inr ⟨_, rfl⟩
      · obtain ⟨x4, x5, x6, x7, x8, x9, rfl⟩ := iv
        exact ⟨_, _, _, _, _, _, _, _, rfl⟩
  · intro env _
    unfold r_law_crossing6
    exact se_ret (EvR.imp evr_non fun v F r => .inl (dn_non r))

def L_law_crossing : Nat := 1
abbrev P_law_crossing : List Str := ["_law_label"]
theorem cal_law_crossing {P : Program} {w : World} {Z : Zt} {mg : Str → Option Value} {base : Heap} {f : Addr} {fd : FuncData} (F : Fun Z.K "_law_crossing" "_law_crossing" st_law_crossing f fd) (gf : mg "_law_crossing" = some (.ref f)) (T : Tx0 mg)  : Cal P w Z.K mg base "_law_crossing" L_law_crossing P_law_crossing (Fs (S_law_crossing Z)) := by
  refine ⟨f, fd, gf, F.kp, F.binds fun _ _ _ _ _ _ us hl => match us, hl with | [_], _ => rfl, F.ok sc_law_crossing (fun vs H Q E h => Fs.len (S := S_law_crossing Z) (n := 1) (S_law_crossing_len Z) h) (fun cdv A outer s H vs Q E hr h => ⟨r_law_crossing Z, PSs.nox ?_, pure_law_crossing h⟩)⟩
  have hu := hr.units
  have hu65 := room65 hr
  have hu64 := room64 hr
  exact (pss_cons (ps_set (i := 1) sc_law_crossing.nd rfl (Or.inl rfl) (pe_callB call_len_seq (by rfl) T.len PySem.boot_len (pa_cons (pv 0) pa_nil))) (pss_cons (ps_for PassesOwn.never rfl (pi_range1 rfl T.range (pa_cons (pv 1) pa_nil)) (pg_name (i := 2) sc_law_crossing.nd rfl (Or.inr rfl)) (pss_cons (ps_setLc (i := 3) (own := [("_law_r", 7)]) (g := gName 7) (tt := (tTest (tOp rEq (tOp (rIxL Z.K) (tVar 0) (tVar 7)) (tOp (rIxL Z.K) (tVar 0) (tVar 2))))) rfl sc_law_crossing.nd rfl rfl (sw_true rfl rfl rfl (by decide +kernel)) (pi_range2 rfl T.range (pa_cons (pe_op op_add (pv 2) pe_int) (pa_cons (pv 1) pa_nil))) (blkOk_by (own := [("_law_r", 7)]) (N := N_law_crossing) (sc := defScope st_law_crossing) (by decide +kernel)) (fun _ _ _ _ _ => pg_name (i := 7) sc_law_crossing.nd rfl (Or.inl rfl)) (fun _ _ _ _ _ => (pts_one (pt_cmpR op_eq (pe_ix ix_list (pv 0) (pv 7) (fun _ _ => rfl)) (pe_ix ix_list (pv 0) (pv 2) (fun _ _ => rfl)) (nomark _)))) (fun _ _ _ _ _ => (pv 7))) (pss_one (ps_if (pt_cmpR (op_neD hu) (pv 3) (pe_lst pa_nil) (nomark _)) (pss_one (ps_for PassesOwn.never rfl (pi_list (pe_lc (own := [("_law_x", 8)]) (g := gName 8) (tt := (tTest (tOp rNe (tOp (rIxL Z.K) (tVar 0) (tVar 8)) (tOp (rIxL Z.K) (tVar 0) (tVar 2))))) rfl sc_law_crossing.nd (pi_range2 rfl T.range (pa_cons (pe_op op_add (pv 2) pe_int) (pa_cons (pe_ix ix_list (pv 3) (pe_un un_neg pe_int) (fun _ _ => rfl)) pa_nil))) (blkOk_by (own := [("_law_x", 8)]) (N := N_law_crossing) (sc := defScope st_law_crossing) (by decide +kernel)) (fun _ _ _ _ _ => pg_name (i := 8) sc_law_crossing.nd rfl (Or.inl rfl)) (fun _ _ _ _ _ => (pts_one (pt_cmpR op_ne (pe_ix ix_list (pv 0) (pv 8) (fun _ _ => rfl)) (pe_ix ix_list (pv 0) (pv 2) (fun _ _ => rfl)) (nomark _)))) (fun _ _ _ _ _ => (pv 8)))) (pg_name (i := 4) sc_law_crossing.nd rfl (Or.inr rfl)) (pss_cons (ps_setLc (i := 5) (own := [("_law_r", 7)]) (g := gName 7) (tt := (tTest (tOp xGt (tVar 7) (tVar 4)))) rfl sc_law_crossing.nd rfl rfl (sw_true rfl rfl rfl (by decide +kernel)) (pi_list (pv 3)) (blkOk_by (own := [("_law_r", 7)]) (N := N_law_crossing) (sc := defScope st_law_crossing) (by decide +kernel)) (fun _ _ _ _ _ => pg_name (i := 7) sc_law_crossing.nd rfl (Or.inl rfl)) (fun _ _ _ _ _ => (pts_one (pt_cmpR op_gt (pv 7) (pv 4) (nomark _)))) (fun _ _ _ _ _ => (pv 7))) (pss_cons (ps_setLc (i := 6) (own := [("_law_s", 9)]) (g := gName 9) (tt := (tTest (tOp rEq (tOp (rIxL Z.K) (tVar 0) (tVar 9)) (tOp (rIxL Z.K) (tVar 0) (tVar 4))))) rfl sc_law_crossing.nd rfl rfl (sw_true rfl rfl rfl (by decide +kernel)) (pi_range2 rfl T.range (pa_cons (pe_op op_add (pe_ix ix_list (pv 5) pe_int (fun _ _ => rfl)) pe_int) (pa_cons (pv 1) pa_nil))) (blkOk_by (own := [("_law_s", 9)]) (N := N_law_crossing) (sc := defScope st_law_crossing) (by decide +kernel)) (fun _ _ _ _ _ => pg_name (i := 9) sc_law_crossing.nd rfl (Or.inl rfl)) (fun _ _ _ _ _ => (pts_one (pt_cmpR op_eq (pe_ix ix_list (pv 0) (pv 9) (fun _ _ => rfl)) (pe_ix ix_list (pv 0) (pv 4) (fun _ _ => rfl)) (nomark _)))) (fun _ _ _ _ _ => (pv 9))) (pss_one (ps_if (pt_cmpR (op_neD hu) (pv 6) (pe_lst pa_nil) (nomark _)) (pss_one (ps_ret (pe_tup (pa_cons pe_int (pa_cons (pe_tup (pa_cons (pv 2) (pa_cons (pv 4) (pa_cons (pe_ix ix_list (pv 5) pe_int (fun _ _ => rfl)) (pa_cons (pe_ix ix_list (pv 6) pe_int (fun _ _ => rfl)) pa_nil))))) pa_nil))))) pss_nil)))))) pss_nil)))) (pss_one (ps_ret pe_non))))


end Bm

/-! text BmD8 -/
set_option Elab.async false
set_option linter.all false
set_option maxRecDepth 100000
set_option maxHeartbeats 4000000
namespace Bm
open PySem PySem.Spec PyProof.Rows L2 Fz
/-! ### _law_book -/
abbrev st_law_book : Stmt := topS 32
abbrev N_law_book : List Str := ["_law_kinds_here", "_law_draws_here", "_law_size", "_law_links", "_law_k", "_law_one", "_law_alike", "_law_longer", "_law_x"]
theorem sc_law_book : FnScope N_law_book ["_law_kinds_here", "_law_draws_here"] (defScope st_law_book) := ⟨rfl, rfl, rfl, by decide +kernel, rfl, by decide +kernel, by decide +kernel⟩
def r_law_book1 (Z : Zt) : TS := (tIfS (tTest (tOp xIsN (tCall (Fs (S_law_crossing Z)) [] E0 (tCons (tCall (Fs (S_law_labels Z)) [] E0 (tCons (tVar 2) (tCons (tCall (Fs (S_law_groups Z)) [] E0 (tCons (tVar 0) (tCons (tVar 7) tNil))) tNil))) tNil)) (tC .non))) (tAsg (tVar 7) (gName 3)) tNext)
def r_law_book2 (Z : Zt) : TS := (tSeq (tAsg (tOp rCat (tVar 3) (tLst (tCons (tTup (tCons (tVar 5) (tCons (tOp (rIxL Z.K) (tVar 6) (tOp xMod (tOp (rIxL Z.K) (tVar 1) (tOp xAdd (tOp xMul (tC (.int 2)) (tVar 4)) (tC (.int 2)))) (tCB (rLenS Z.K) (tCons (tVar 6) tNil)))) tNil))) tNil))) (gName 7)) (r_law_book1 Z))
def r_law_book3 (Z : Zt) : TS := (tSeq (tAsg (tLc (iRng1 (tCons (tVar 2) tNil)) (gName 8) (tTest (tOp rEq (tOp (rIxL Z.K) (tVar 0) (tVar 8)) (tOp (rIxL Z.K) (tVar 0) (tVar 5)))) (tVar 8) [8]) (gName 6)) (r_law_book2 Z))
def r_law_book4 (Z : Zt) : TS := (tSeq (tAsg (tOp xMod (tOp (rIxL Z.K) (tVar 1) (tOp xAdd (tOp xMul (tC (.int 2)) (tVar 4)) (tC (.int 1)))) (tVar 2)) (gName 5)) (r_law_book3 Z))
def r_law_book5 (Z : Zt) : TS := (tRet (tCall (Fs (S_law_groups Z)) [] E0 (tCons (tVar 0) (tCons (tVar 3) tNil))))
def r_law_book6 (Z : Zt) : TS := (tSeq (tFor (iRng1 (tCons (tOp xMod (tOp (rIxL Z.K) (tVar 1) (tC (.int 0))) (tC (.int 7))) tNil)) (gName 4) (r_law_book4 Z)) (r_law_book5 Z))
def r_law_book7 (Z : Zt) : TS := (tSeq (tAsg (tCall (Fn (S_law_closed Z)) [] E0 (tCons (tVar 2) tNil)) (gName 3)) (r_law_book6 Z))
def r_law_book (Z : Zt) : TS := (tSeq (tAsg (tCB (rLenS Z.K) (tCons (tVar 0) tNil)) (gName 2)) (r_law_book7 Z))


/-- a grouping of n beads -/
def PG (n : Nat) : Pr := ExP (fun l : List Nat => l.length = n) fun l => D (dRs (parts l))
theorem parts_in {l : List Nat} {r : List Nat} (h : r ∈ parts l) : ∀ x ∈ r, x < l.length := by
  unfold parts partsE at h
  obtain ⟨k, _, rfl⟩ := List.mem_map.mp h
  exact fun x hx => (ptAt_mem hx).1
theorem parts_len {l : List Nat} : (parts l).length ≤ l.length := by
  unfold parts partsE
  rw [List.length_map]
  exact Nat.le_trans (List.length_filter_le _ _) (by rw [List.length_range]; exact Nat.le_refl _)
theorem closedP_in {n : Nat} (h : 0 < n) : ∀ q ∈ closedP n, q.1 < n ∧ q.2 < n := fun q hq => by
  unfold closedP at hq
  obtain ⟨k, hk, rfl⟩ := List.mem_map.mp hq
  exact ⟨List.mem_range.mp hk, Nat.mod_lt _ h⟩
theorem closedP_len {n : Nat} : (closedP n).length = n := by unfold closedP; rw [List.length_map, List.length_range]
def S_law_book (_ : Zt) (Rs : List Pr) (R : Pr) : Prop := ∃ (ks : List Int) (dr : List Nat), 2 ≤ ks.length ∧ ks.length ≤ 7 ∧ dr.length = 13 ∧ Rs = [D (dIs ks), D (dNs dr)] ∧ R = PG ks.length
theorem S_law_book_len (Z : Zt) (Rs : List Pr) (R : Pr) (h : S_law_book Z Rs R) : Rs.length = 2 := by
  obtain ⟨_, _, _, _, _, rfl, _⟩ := h
  rfl
theorem pure_law_book {Z : Zt} {vs : List V} {H : Hp} {Q : VK} {E : XK} (h : Fs (S_law_book Z) vs H Q E) : r_law_book Z { nx := fun _ H' => Q .non H', rt := Q } (L2.start N_law_book vs) H := by
  obtain ⟨Rs, R, F, ⟨ks, dr, h2, h7, hd, rfl, rfl⟩, e, a, q⟩ := h
  refine se_body (N := N_law_book) (n := 9) rfl e a q ?_
  show SE F H _ [.has (D (dIs ks)), .has (D (dNs dr)), .no, .no, .no, .no, .no, .no, .no] _
  have hr : ∀ i, i < 13 → dr[i]? = some (dr.getD i 0) := fun i hi => getN (by omega)
  unfold r_law_book
  refine sq_asg (evr_lenM (evr_var rfl)) ?_
  unfold r_law_book7
  refine sq_asg (EvN.r (evn_call (Rs := [D (dN ks.length)]) (eva_cons (evr_var rfl) eva_nil) ⟨ks.length, by omega, by omega, rfl, rfl⟩)) ?_
  unfold r_law_book6
  refine se_seq (fun env => ∃ (prs : List (Nat × Nat)) (x y z u w : Sl), (∀ q ∈ prs, q.1 < ks.length ∧ q.2 < ks.length) ∧ env = [.has (D (dIs ks)), .has (D (dNs dr)), .has (D (dN ks.length)), .has (D (.list (prs.map dP))), x, y, z, u, w])
    (se_forR1 (n := dr.getD 0 0 % 7) (evr_modN (n := 7) (evr_ixN (i := 0) (evr_var rfl) evr_int (hr 0 (by omega))) evr_int (by omega)) (by have := Nat.mod_lt (dr.getD 0 0) (show 0 < 7 by omega); omega)
      (fun i env => ∃ (prs : List (Nat × Nat)) (x y z u w : Sl), prs.length ≤ 100 + i ∧ (∀ q ∈ prs, q.1 < ks.length ∧ q.2 < ks.length) ∧ env = [.has (D (dIs ks)), .has (D (dNs dr)), .has (D (dN ks.length)), .has (D (.list (prs.map dP))), x, y, z, u, w])
      ⟨closedP ks.length, _, _, _, _, _, by rw [closedP_len]; omega, closedP_in (by omega), rfl⟩ (fun i env' hi iv => ?_) fun env' iv => ?_) ?_
  · obtain ⟨prs, x, y, z, u, w, pl, pb, rfl⟩ := iv
    have hi6 : i < 7 := by have := Nat.mod_lt (dr.getD 0 0) (show 0 < 7 by omega); omega
    have hi6' : i ≤ 5 := by have := Nat.mod_lt (dr.getD 0 0) (show 0 < 7 by omega); omega
    have ho : dr.getD (2 * i + 1) 0 % ks.length < ks.length := Nat.mod_lt _ (by omega)
    unfold r_law_book4
    refine sq_asg (R := D (dN (dr.getD (2 * i + 1) 0 % ks.length))) (evr_modN (evr_ixN (i := 2 * i + 1) (evr_var rfl) (evr_addN (n := 1) (evr_mulN (m := 2) evr_int (evr_var rfl) (by omega)) evr_int) (hr _ (by omega))) (evr_var rfl) (by omega)) ?_
    generalize dr.getD (2 * i + 1) 0 % ks.length = one at ho
    unfold r_law_book3
    refine sq_asg (R := D (dNs (ptAt (eqo ks) ks.length one))) (EvN.r (ev_alike (n := ks.length) (one := one) rfl rfl rfl (by decide) (by decide) (show 8 < 9 by decide) rfl ho (by omega))) ?_
    have hne : ptAt (eqo ks) ks.length one ≠ [] := ptAt_ne ho (eqo_refl ks one)
    have hpk : ∀ m, (ptAt (eqo ks) ks.length one).getD (m % (ptAt (eqo ks) ks.length one).length) 0 < ks.length := fun m => (ptAt_mem (pick_mem hne)).1
    generalize ptAt (eqo ks) ks.length one = al at hne hpk
    unfold r_law_book2
    refine sq_asg (R := D (.list ((prs ++ [(one, al.getD (dr.getD (2 * i + 2) 0 % al.length) 0)]).map dP))) (EvN.r (evn_catM (enc := dP) (evr_var rfl) (EvN.r (evn_one (d := dP (one, al.getD (dr.getD (2 * i + 2) 0 % al.length) 0)) (evr_tup2 (evr_var rfl) (ev_pick (evr_var rfl) (evr_ixN (i := 2 * i + 2) (evr_var rfl) (evr_addN (n := 2) (evr_mulN (m := 2) evr_int (evr_var rfl) (by omega)) evr_int) (hr _ (by omega))) hne)))) (by show prs.length + 1 ≤ _; omega))) ?_
    have pb2 : ∀ q ∈ prs ++ [(one, al.getD (dr.getD (2 * i + 2) 0 % al.length) 0)], q.1 < ks.length ∧ q.2 < ks.length := fun q hq => by
      rcases List.mem_append.mp hq with z | z
      · exact pb q z
      · rw [List.mem_singleton.mp z]; exact ⟨ho, hpk _⟩
    have pl2 : (prs ++ [(one, al.getD (dr.getD (2 * i + 2) 0 % al.length) 0)]).length ≤ 100 + (i + 1) := by rw [List.length_append]; show prs.length + 1 ≤ _; omega
    generalize prs ++ [(one, al.getD (dr.getD (2 * i + 2) 0 % al.length) 0)] = prs2 at pb2 pl2
    unfold r_law_book1
    refine se_ifU ?_ (se_asg (evr_var rfl) ⟨prs2, _, _, _, _, _, pl2, pb2, rfl⟩) (se_next ⟨prs, _, _, _, _, _, by omega, pb, rfl⟩)
    refine evu_isN rfl (R := PNo) ?_
    have hgl : ∀ r ∈ groups ks prs2, ∀ x ∈ r, x < ks.length := fun r hr' x hx => by
      have := parts_in (l := lab (eqo ks) ks.length prs2) hr' x hx
      rwa [lab_len] at this
    have hgn : (groups ks prs2).length ≤ 1000 := by
      have := parts_len (l := lab (eqo ks) ks.length prs2)
      rw [lab_len] at this
      show (parts _).length ≤ _
      omega
    refine evr_callE (c := fun l : List Nat => l.length = ks.length) (Rz := fun l => D (dNs l)) (evr_call (Rs := [D (dN ks.length), D (dRs (groups ks prs2))]) (eva_cons (evr_var rfl) (eva_cons (evr_call (Rs := [D (dIs ks), D (.list (prs2.map dP))]) (eva_cons (evr_var rfl) (eva_cons (evr_var rfl) eva_nil)) ⟨ks, prs2, by omega, pb2, rfl, rfl⟩) eva_nil)) ⟨ks.length, _, by omega, hgn, hgl, rfl, rfl⟩) fun l hl => ⟨l, by omega, rfl, rfl⟩
  · obtain ⟨prs, x, y, z, u, w, _, pb, rfl⟩ := iv
    exact ⟨prs, _, _, _, _, _, pb, rfl⟩
  · rintro _ ⟨prs, x, y, z, u, w, pb, rfl⟩
    unfold r_law_book5
    refine se_ret (exp_in (z := lab (eqo ks) ks.length prs) lab_len ?_)
    exact evr_call (Rs := [D (dIs ks), D (.list (prs.map dP))]) (eva_cons (evr_var rfl) (eva_cons (evr_var rfl) eva_nil)) ⟨ks, prs, by omega, pb, rfl, rfl⟩

def L_law_book : Nat := 3
abbrev P_law_book : List Str := ["_law_kinds_here", "_law_draws_here"]
theorem cal_law_book {P : Program} {w : World} {Z : Zt} {mg : Str → Option Value} {base : Heap} {f : Addr} {fd : FuncData} (F : Fun Z.K "_law_book" "_law_book" st_law_book f fd) (gf : mg "_law_book" = some (.ref f)) (T : Tx0 mg) (C_law_closed : Cal P w Z.K mg base "_law_closed" L_law_closed P_law_closed (Fn (S_law_closed Z))) (C_law_groups : Cal P w Z.K mg base "_law_groups" L_law_groups P_law_groups (Fs (S_law_groups Z))) (C_law_labels : Cal P w Z.K mg base "_law_labels" L_law_labels P_law_labels (Fs (S_law_labels Z))) (C_law_crossing : Cal P w Z.K mg base "_law_crossing" L_law_crossing P_law_crossing (Fs (S_law_crossing Z))) : Cal P w Z.K mg base "_law_book" L_law_book P_law_book (Fs (S_law_book Z)) := by
  refine ⟨f, fd, gf, F.kp, F.binds fun _ _ _ _ _ _ us hl => match us, hl with | [_, _], _ => rfl, F.ok sc_law_book (fun vs H Q E h => Fs.len (S := S_law_book Z) (n := 2) (S_law_book_len Z) h) (fun cdv A outer s H vs Q E hr h => ⟨r_law_book Z, PSs.nox ?_, pure_law_book h⟩)⟩
  have hu := hr.units
  have hu65 := room65 hr
  have hu64 := room64 hr
  exact (pss_cons (ps_set (i := 2) sc_law_book.nd rfl (Or.inl rfl) (pe_callB call_len_seq (by rfl) T.len PySem.boot_len (pa_cons (pv 0) pa_nil))) (pss_cons (ps_set (i := 3) sc_law_book.nd rfl (Or.inl rfl) (pe_cal C_law_closed (hr.mono (by decide)) (pa_cons (pv 2) pa_nil))) (pss_cons (ps_for PassesOwn.never rfl (pi_range1 rfl T.range (pa_cons (pe_op op_mod (pe_ix ix_list (pv 1) pe_int (fun _ _ => rfl)) pe_int) pa_nil)) (pg_name (i := 4) sc_law_book.nd rfl (Or.inl rfl)) (pss_cons (ps_set (i := 5) sc_law_book.nd rfl (Or.inr rfl) (pe_op op_mod (pe_ix ix_list (pv 1) (pe_op op_add (pe_op op_mul pe_int (pv 4)) pe_int) (fun _ _ => rfl)) (pv 2))) (pss_cons (ps_setLc (i := 6) (own := [("_law_x", 8)]) (g := gName 8) (tt := (tTest (tOp rEq (tOp (rIxL Z.K) (tVar 0) (tVar 8)) (tOp (rIxL Z.K) (tVar 0) (tVar 5))))) rfl sc_law_book.nd rfl rfl (sw_true rfl rfl rfl (by decide +kernel)) (pi_range1 rfl T.range (pa_cons (pv 2) pa_nil)) (blkOk_by (own := [("_law_x", 8)]) (N := N_law_book) (sc := defScope st_law_book) (by decide +kernel)) (fun _ _ _ _ _ => pg_name (i := 8) sc_law_book.nd rfl (Or.inl rfl)) (fun _ _ _ _ _ => (pts_one (pt_cmpR op_eq (pe_ix ix_list (pv 0) (pv 8) (fun _ _ => rfl)) (pe_ix ix_list (pv 0) (pv 5) (fun _ _ => rfl)) (nomark _)))) (fun _ _ _ _ _ => (pv 8))) (pss_cons (ps_set (i := 7) sc_law_book.nd rfl (Or.inl rfl) (pe_op op_cat (pv 3) (pe_lst (pa_cons (pe_tup (pa_cons (pv 5) (pa_cons (pe_ix ix_list (pv 6) (pe_op op_mod (pe_ix ix_list (pv 1) (pe_op op_add (pe_op op_mul pe_int (pv 4)) pe_int) (fun _ _ => rfl)) (pe_callB call_len_seq (by rfl) T.len PySem.boot_len (pa_cons (pv 6) pa_nil))) (fun _ _ => rfl)) pa_nil))) pa_nil)))) (pss_one (ps_if (pt_cmpR op_isN (pe_cal C_law_crossing (hr.mono (by decide)) (pa_cons (pe_cal C_law_labels (hr.mono (by decide)) (pa_cons (pv 2) (pa_cons (pe_cal C_law_groups (hr.mono (by decide)) (pa_cons (pv 0) (pa_cons (pv 7) pa_nil))) pa_nil))) pa_nil)) pe_non (nomark _)) (pss_one (ps_set (i := 3) sc_law_book.nd rfl (Or.inl rfl) (pv 7))) pss_nil)))))) (pss_one (ps_ret (pe_cal C_law_groups (hr.mono (by decide)) (pa_cons (pv 0) (pa_cons (pv 3) pa_nil))))))))


end Bm

/-! text BmD10 -/
set_option Elab.async false
set_option linter.all false
set_option maxRecDepth 100000
set_option maxHeartbeats 4000000
namespace Bm
open PySem PySem.Spec PyProof.Rows L2 Fz
/-! ### _law_near -/
abbrev st_law_near : Stmt := topS 35
abbrev N_law_near : List Str := ["_law_label", "_law_kinds_here", "_law_draws_here", "_law_size", "_law_one", "_law_alike", "_law_two", "_law_x", "_law_name"]
theorem sc_law_near : FnScope N_law_near ["_law_label", "_law_kinds_here", "_law_draws_here"] (defScope st_law_near) := ⟨rfl, rfl, rfl, by decide +kernel, rfl, by decide +kernel, by decide +kernel⟩
def r_law_near1 (Z : Zt) : TS := (tRet (tOp rCat (tOp rCat (tSl (rSlL Z.K) (tVar 0) tNoPart (tPart (tVar 4))) (tLst (tCons (tVar 3) tNil))) (tSl (rSlL Z.K) (tVar 0) (tPart (tOp xAdd (tVar 4) (tC (.int 1)))) tNoPart)))
def r_law_near2 (Z : Zt) : TS := (tSeq (tIfS (tTest (tOp rEq (tOp xMod (tOp (rIxL Z.K) (tVar 2) (tC (.int 0))) (tC (.int 8))) (tC (.int 5)))) (tRet (tLc (iRng1 (tCons (tVar 3) tNil)) (gName 7) tYes (tIf (tAnd (tTest (tOp rEq (tOp (rIxL Z.K) (tVar 0) (tVar 7)) (tOp (rIxL Z.K) (tVar 0) (tVar 4)))) (tTest (tOp rEq (tOp xMod (tOp (rIxL Z.K) (tVar 2) (tOp xAdd (tVar 7) (tC (.int 4)))) (tC (.int 2))) (tC (.int 0))))) (tVar 3) (tOp (rIxL Z.K) (tVar 0) (tVar 7))) [7])) tNext) (r_law_near1 Z))
def r_law_near3 (Z : Zt) : TS := (tSeq (tIfS (tTest (tOp rEq (tOp xMod (tOp (rIxL Z.K) (tVar 2) (tC (.int 0))) (tC (.int 8))) (tC (.int 4)))) (tRet (tLc (iList Z.K (tVar 0)) (gName 8) tYes (tIf (tTest (tOp rEq (tVar 8) (tOp (rIxL Z.K) (tVar 0) (tVar 4)))) (tOp (rIxL Z.K) (tVar 0) (tVar 6)) (tVar 8)) [8])) tNext) (r_law_near2 Z))
def r_law_near4 (Z : Zt) : TS := (tSeq (tAsg (tOp (rIxL Z.K) (tVar 5) (tOp xMod (tOp (rIxL Z.K) (tVar 2) (tC (.int 3))) (tCB (rLenS Z.K) (tCons (tVar 5) tNil)))) (gName 6)) (r_law_near3 Z))
def r_law_near5 (Z : Zt) : TS := (tSeq (tAsg (tLc (iRng1 (tCons (tVar 3) tNil)) (gName 7) (tTest (tOp rEq (tOp (rIxL Z.K) (tVar 1) (tVar 7)) (tOp (rIxL Z.K) (tVar 1) (tVar 4)))) (tVar 7) [7]) (gName 5)) (r_law_near4 Z))
def r_law_near6 (Z : Zt) : TS := (tSeq (tAsg (tOp xMod (tOp (rIxL Z.K) (tVar 2) (tC (.int 2))) (tVar 3)) (gName 4)) (r_law_near5 Z))
def r_law_near (Z : Zt) : TS := (tSeq (tAsg (tCB (rLenS Z.K) (tCons (tVar 0) tNil)) (gName 3)) (r_law_near6 Z))


def S_law_near (_ : Zt) (Rs : List Pr) (R : Pr) : Prop := ∃ (l : List Nat) (ks : List Int) (dr : List Nat), ks.length = l.length ∧ 2 ≤ l.length ∧ l.length ≤ 7 ∧ dr.length = 14 ∧ Rs = [D (dNs l), D (dIs ks), D (dNs dr)] ∧ R = PNs l.length
theorem S_law_near_len (Z : Zt) (Rs : List Pr) (R : Pr) (h : S_law_near Z Rs R) : Rs.length = 3 := by
  obtain ⟨_, _, _, _, _, _, _, rfl, _⟩ := h
  rfl
theorem pure_law_near {Z : Zt} {vs : List V} {H : Hp} {Q : VK} {E : XK} (h : Fs (S_law_near Z) vs H Q E) : r_law_near Z { nx := fun _ H' => Q .non H', rt := Q } (L2.start N_law_near vs) H := by
  obtain ⟨Rs, R, F, ⟨l, ks, dr, hk, h2, h7, hd, rfl, rfl⟩, e, a, q⟩ := h
  refine se_body (N := N_law_near) (n := 9) rfl e a q ?_
  show SE F H _ [.has (D (dNs l)), .has (D (dIs ks)), .has (D (dNs dr)), .no, .no, .no, .no, .no, .no] _
  have hr : ∀ i, i < 14 → dr[i]? = some (dr.getD i 0) := fun i hi => getN (by omega)
  unfold r_law_near
  refine sq_asg (evr_lenM (evr_var rfl)) ?_
  have ho : dr.getD 2 0 % l.length < l.length := Nat.mod_lt _ (by omega)
  unfold r_law_near6
  refine sq_asg (R := D (dN (dr.getD 2 0 % l.length))) (evr_modN (evr_ixN (i := 2) (evr_var rfl) evr_int (hr 2 (by omega))) (evr_var rfl) (by omega)) ?_
  generalize dr.getD 2 0 % l.length = one at ho
  unfold r_law_near5
  refine sq_asg (R := D (dNs (ptAt (eqo ks) l.length one))) (EvN.r (ev_alike (n := l.length) (one := one) rfl rfl rfl (by decide) (by decide) (show 7 < 9 by decide) hk ho (by omega))) ?_
  have hne : ptAt (eqo ks) l.length one ≠ [] := ptAt_ne ho (eqo_refl ks one)
  have hpk : (ptAt (eqo ks) l.length one).getD (dr.getD 3 0 % (ptAt (eqo ks) l.length one).length) 0 < l.length := (ptAt_mem (pick_mem hne)).1
  generalize ptAt (eqo ks) l.length one = al at hne hpk
  unfold r_law_near4
  refine sq_asg (R := D (dN (al.getD (dr.getD 3 0 % al.length) 0))) (ev_pick (evr_var rfl) (evr_ixN (i := 3) (evr_var rfl) evr_int (hr 3 (by omega))) hne) ?_
  generalize al.getD (dr.getD 3 0 % al.length) 0 = two at hpk
  unfold r_law_near3
  refine sq_ifx (evt_eqN (n := 4) (evr_modN (n := 8) (evr_ixN (i := 0) (evr_var rfl) evr_int (hr 0 (by omega))) evr_int (by omega)) evr_int) (fun _ => ?_) fun _ => ?_
  · refine se_ret (exp_in (z := l.map fun x => if x == l.getD one 0 then l.getD two 0 else x) (by rw [List.length_map]) ?_)
    have em : dNs (l.map fun x => if x == l.getD one 0 then l.getD two 0 else x) = .list (l.map fun x => dN (if x == l.getD one 0 then l.getD two 0 else x)) := by show PyData.list _ = _; rw [List.map_map]; rfl
    rw [em]
    refine EvN.r (evn_lcLy dN (fun x => dN (if x == l.getD one 0 then l.getD two 0 else x)) (evr_var rfl) (by omega) fun x _ => ?_)
    refine evr_if (evt_eqN (evr_var rfl) (evr_ixN (evr_var rfl) (evr_var rfl) (getN ho))) (fun h => ?_) fun h => ?_
    · rw [if_pos h]; exact evr_ixN (evr_var rfl) (evr_var rfl) (getN hpk)
    · rw [if_neg (by rw [h]; exact Bool.false_ne_true)]; exact evr_var rfl
  · unfold r_law_near2
    refine sq_ifx (evt_eqN (n := 5) (evr_modN (n := 8) (evr_ixN (i := 0) (evr_var rfl) evr_int (hr 0 (by omega))) evr_int (by omega)) evr_int) (fun _ => ?_) fun _ => ?_
    · refine se_ret (exp_in (z := (List.range l.length).map fun x => if ((l.getD x 0 == l.getD one 0) && (dr.getD (x + 4) 0 % 2 == 0)) = true then l.length else l.getD x 0) (by rw [List.length_map, List.length_range]) ?_)
      have em : dNs ((List.range l.length).map fun x => if ((l.getD x 0 == l.getD one 0) && (dr.getD (x + 4) 0 % 2 == 0)) = true then l.length else l.getD x 0) = .list ((List.range l.length).map fun x => dN (if ((l.getD x 0 == l.getD one 0) && (dr.getD (x + 4) 0 % 2 == 0)) = true then l.length else l.getD x 0)) := by show PyData.list _ = _; rw [List.map_map]; rfl
      rw [em]
      refine EvN.r (evn_lcRy (fun x => dN (if ((l.getD x 0 == l.getD one 0) && (dr.getD (x + 4) 0 % 2 == 0)) = true then l.length else l.getD x 0)) (evr_var rfl) (by omega) fun x hx => ?_)
      refine evr_if (evt_and (evt_eqN (evr_ixN (evr_var rfl) (evr_var rfl) (getN hx)) (evr_ixN (evr_var rfl) (evr_var rfl) (getN ho))) fun _ => evt_eqN (n := 0) (evr_modN (n := 2) (evr_ixN (i := x + 4) (evr_var rfl) (evr_addN (n := 4) (evr_var rfl) evr_int) (hr _ (by omega))) evr_int (by omega)) evr_int) (fun h => ?_) fun h => ?_
      · rw [if_pos h]; exact evr_var rfl
      · rw [if_neg (by rw [h]; exact Bool.false_ne_true)]; exact evr_ixN (evr_var rfl) (evr_var rfl) (getN hx)
    · unfold r_law_near1
      refine se_ret (exp_in (z := l.take one ++ [l.length] ++ l.drop (one + 1)) (by simp; omega) ?_)
      exact EvN.r (evn_catM (enc := dN) (EvN.r (evn_catM (enc := dN) (ys := [l.length]) (EvN.r (evn_takeM (enc := dN) (evr_var rfl) (evr_var rfl))) (EvN.r (evn_one (evr_var rfl))) (by simp; omega))) (EvN.r (evn_dropM (enc := dN) (evr_var rfl) (evr_addN (n := 1) (evr_var rfl) evr_int))) (by simp; omega))

def L_law_near : Nat := 1
abbrev P_law_near : List Str := ["_law_label", "_law_kinds_here", "_law_draws_here"]
theorem cal_law_near {P : Program} {w : World} {Z : Zt} {mg : Str → Option Value} {base : Heap} {f : Addr} {fd : FuncData} (F : Fun Z.K "_law_near" "_law_near" st_law_near f fd) (gf : mg "_law_near" = some (.ref f)) (T : Tx0 mg)  : Cal P w Z.K mg base "_law_near" L_law_near P_law_near (Fs (S_law_near Z)) := by
  refine ⟨f, fd, gf, F.kp, F.binds fun _ _ _ _ _ _ us hl => match us, hl with | [_, _, _], _ => rfl, F.ok sc_law_near (fun vs H Q E h => Fs.len (S := S_law_near Z) (n := 3) (S_law_near_len Z) h) (fun cdv A outer s H vs Q E hr h => ⟨r_law_near Z, PSs.nox ?_, pure_law_near h⟩)⟩
  have hu := hr.units
  have hu65 := room65 hr
  have hu64 := room64 hr
  exact (pss_cons (ps_set (i := 3) sc_law_near.nd rfl (Or.inr rfl) (pe_callB call_len_seq (by rfl) T.len PySem.boot_len (pa_cons (pv 0) pa_nil))) (pss_cons (ps_set (i := 4) sc_law_near.nd rfl (Or.inr rfl) (pe_op op_mod (pe_ix ix_list (pv 2) pe_int (fun _ _ => rfl)) (pv 3))) (pss_cons (ps_setLc (i := 5) (own := [("_law_x", 7)]) (g := gName 7) (tt := (tTest (tOp rEq (tOp (rIxL Z.K) (tVar 1) (tVar 7)) (tOp (rIxL Z.K) (tVar 1) (tVar 4))))) rfl sc_law_near.nd rfl rfl (sw_true rfl rfl rfl (by decide +kernel)) (pi_range1 rfl T.range (pa_cons (pv 3) pa_nil)) (blkOk_by (own := [("_law_x", 7)]) (N := N_law_near) (sc := defScope st_law_near) (by decide +kernel)) (fun _ _ _ _ _ => pg_name (i := 7) sc_law_near.nd rfl (Or.inl rfl)) (fun _ _ _ _ _ => (pts_one (pt_cmpR op_eq (pe_ix ix_list (pv 1) (pv 7) (fun _ _ => rfl)) (pe_ix ix_list (pv 1) (pv 4) (fun _ _ => rfl)) (nomark _)))) (fun _ _ _ _ _ => (pv 7))) (pss_cons (ps_set (i := 6) sc_law_near.nd rfl (Or.inr rfl) (pe_ix ix_list (pv 5) (pe_op op_mod (pe_ix ix_list (pv 2) pe_int (fun _ _ => rfl)) (pe_callB call_len_seq (by rfl) T.len PySem.boot_len (pa_cons (pv 5) pa_nil))) (fun _ _ => rfl))) (pss_cons (ps_if (pt_cmpR op_eq (pe_op op_mod (pe_ix ix_list (pv 2) pe_int (fun _ _ => rfl)) pe_int) pe_int (nomark _)) (pss_one (ps_ret (pe_lc (own := [("_law_name", 8)]) (g := gName 8) (tt := tYes) rfl sc_law_near.nd (pi_list (pv 0)) (blkOk_by (own := [("_law_name", 8)]) (N := N_law_near) (sc := defScope st_law_near) (by decide +kernel)) (fun _ _ _ _ _ => pg_name (i := 8) sc_law_near.nd rfl (Or.inl rfl)) (fun _ _ _ _ _ => pts_nil) (fun _ _ _ _ _ => (pe_ifExp (pt_cmpR op_eq (pv 8) (pe_ix ix_list (pv 0) (pv 4) (fun _ _ => rfl)) (nomark _)) (pe_ix ix_list (pv 0) (pv 6) (fun _ _ => rfl)) (pv 8)))))) pss_nil) (pss_cons (ps_if (pt_cmpR op_eq (pe_op op_mod (pe_ix ix_list (pv 2) pe_int (fun _ _ => rfl)) pe_int) pe_int (nomark _)) (pss_one (ps_ret (pe_lc (own := [("_law_x", 7)]) (g := gName 7) (tt := tYes) rfl sc_law_near.nd (pi_range1 rfl T.range (pa_cons (pv 3) pa_nil)) (blkOk_by (own := [("_law_x", 7)]) (N := N_law_near) (sc := defScope st_law_near) (by decide +kernel)) (fun _ _ _ _ _ => pg_name (i := 7) sc_law_near.nd rfl (Or.inl rfl)) (fun _ _ _ _ _ => pts_nil) (fun _ _ _ _ _ => (pe_ifExp (PW.pt (pw_and (pt_cmpR op_eq (pe_ix ix_list (pv 0) (pv 7) (fun _ _ => rfl)) (pe_ix ix_list (pv 0) (pv 4) (fun _ _ => rfl)) (nomark _)) (pw_and1 (pt_cmpR op_eq (pe_op op_mod (pe_ix ix_list (pv 2) (pe_op op_add (pv 7) pe_int) (fun _ _ => rfl)) pe_int) pe_int (nomark _))))) (pv 3) (pe_ix ix_list (pv 0) (pv 7) (fun _ _ => rfl))))))) pss_nil) (pss_one (ps_ret (pe_op op_cat (pe_op op_cat (pe_slice sl_list (pv 0) po_none (po_some (pv 4))) (pe_lst (pa_cons (pv 3) pa_nil))) (pe_slice sl_list (pv 0) (po_some (pe_op op_add (pv 4) pe_int)) po_none))))))))))


/-! ### _law_drawn -/
abbrev st_law_drawn : Stmt := topS 36
abbrev N_law_drawn : List Str := ["_law_kinds_here", "_law_had_here", "_law_cell_here", "_law_size", "_law_draws_here", "_law_way", "_law_label", "_law_k", "_law_homes", "_law_links", "_law_one", "_law_alike", "_law_x"]
theorem sc_law_drawn : FnScope N_law_drawn ["_law_kinds_here", "_law_had_here", "_law_cell_here"] (defScope st_law_drawn) := ⟨rfl, rfl, rfl, by decide +kernel, rfl, by decide +kernel, by decide +kernel⟩
def r_law_drawn1 (Z : Zt) : TS := (tDrop (tBM Z.K "list" rAppend (tVar 6) (tCons (tOp (rIxL Z.K) (tVar 8) (tOp xMod (tOp (rIxL Z.K) (tVar 4) (tOp xAdd (tVar 7) (tC (.int 1)))) (tCB (rLenS Z.K) (tCons (tVar 8) tNil)))) tNil)))
def r_law_drawn2 (Z : Zt) : TS := (tSeq (tAsg (tOp rCat (tLst (tCons (tVar 7) tNil)) (tLc (iRng1 (tCons (tVar 7) tNil)) (gName 12) (tTest (tOp rEq (tOp (rIxL Z.K) (tVar 0) (tVar 12)) (tOp (rIxL Z.K) (tVar 0) (tVar 7)))) (tOp (rIxL Z.K) (tVar 6) (tVar 12)) [12])) (gName 8)) (r_law_drawn1 Z))
def r_law_drawn3 (Z : Zt) : TS := (tRet (tCall (Fs (S_law_parts Z)) [] E0 (tCons (tVar 6) tNil)))
def r_law_drawn4 (Z : Zt) : TS := (tSeq (tFor (iRng1 (tCons (tVar 3) tNil)) (gName 7) (r_law_drawn2 Z)) (r_law_drawn3 Z))
def r_law_drawn5 (Z : Zt) : TS := (tDrop (tBM Z.K "list" rAppend (tVar 9) (tCons (tTup (tCons (tVar 10) (tCons (tOp (rIxL Z.K) (tVar 11) (tOp xMod (tOp (rIxL Z.K) (tVar 4) (tOp xAdd (tOp xMul (tC (.int 2)) (tVar 7)) (tC (.int 2)))) (tCB (rLenS Z.K) (tCons (tVar 11) tNil)))) tNil))) tNil)))
def r_law_drawn6 (Z : Zt) : TS := (tSeq (tAsg (tLc (iRng1 (tCons (tVar 3) tNil)) (gName 12) (tTest (tOp rEq (tOp (rIxL Z.K) (tVar 0) (tVar 12)) (tOp (rIxL Z.K) (tVar 0) (tVar 10)))) (tVar 12) [12]) (gName 11)) (r_law_drawn5 Z))
def r_law_drawn7 (Z : Zt) : TS := (tSeq (tAsg (tOp xMod (tOp (rIxL Z.K) (tVar 4) (tOp xAdd (tOp xMul (tC (.int 2)) (tVar 7)) (tC (.int 1)))) (tVar 3)) (gName 10)) (r_law_drawn6 Z))
def r_law_drawn8 (Z : Zt) : TS := (tRet (tCall (Fs (S_law_groups Z)) [] E0 (tCons (tVar 0) (tCons (tVar 9) tNil))))
def r_law_drawn9 (Z : Zt) : TS := (tSeq (tFor (iRng1 (tCons (tC (.int 3)) tNil)) (gName 7) (r_law_drawn7 Z)) (r_law_drawn8 Z))
def r_law_drawn10 (Z : Zt) : TS := (tRet (tCall (Fs (S_law_parts Z)) [] E0 (tCons (tCall (Fs (S_law_near Z)) [] E0 (tCons (tVar 6) (tCons (tVar 0) (tCons (tVar 4) tNil)))) tNil)))
def r_law_drawn11 (Z : Zt) : TS := (tSeq (tAsg (tCall (Fs (S_law_labels Z)) [] E0 (tCons (tVar 3) (tCons (tOp (rIxL Z.K) (tVar 1) (tOp xMod (tOp (rIxL Z.K) (tVar 4) (tC (.int 1))) (tCB (rLenS Z.K) (tCons (tVar 1) tNil)))) tNil))) (gName 6)) (r_law_drawn10 Z))
def r_law_drawn12 (Z : Zt) : TS := (tSeq (tIfS (tOr (tTest (tOp rEq (tVar 5) (tC (.int 3)))) (tTest (tOp rEq (tVar 5) (tC (.int 7))))) (tRet (tCall (Fs (S_law_book Z)) [] E0 (tCons (tVar 0) (tCons (tSl (rSlL Z.K) (tVar 4) (tPart (tC (.int 1))) (tPart (tC (.int 14)))) tNil)))) tNext) (r_law_drawn11 Z))
def r_law_drawn13 (Z : Zt) : TS := (tSeq (tIfS (tTest (tOp rEq (tVar 5) (tC (.int 2)))) (tSeq (tAsg (tCall (Fn (S_law_closed Z)) [] E0 (tCons (tVar 3) tNil)) (gName 9)) (r_law_drawn9 Z)) tNext) (r_law_drawn12 Z))
def r_law_drawn14 (Z : Zt) : TS := (tSeq (tIfS (tTest (tOp rEq (tVar 5) (tC (.int 1)))) (tSeq (tAsg (tLst tNil) (gName 6)) (r_law_drawn4 Z)) tNext) (r_law_drawn13 Z))
def r_law_drawn15 (Z : Zt) : TS := (tSeq (tIfS (tTest (tOp rEq (tVar 5) (tC (.int 0)))) (tRet (tCall (Fs (S_law_parts Z)) [] E0 (tCons (tLc (iRng1 (tCons (tVar 3) tNil)) (gName 7) tYes (tOp xMod (tOp (rIxL Z.K) (tVar 4) (tOp xAdd (tVar 7) (tC (.int 1)))) (tOp xAdd (tVar 7) (tC (.int 1)))) [7]) tNil))) tNext) (r_law_drawn14 Z))
def r_law_drawn16 (Z : Zt) : TS := (tSeq (tAsg (tOp xMod (tOp (rIxL Z.K) (tVar 4) (tC (.int 0))) (tC (.int 8))) (gName 5)) (r_law_drawn15 Z))
def r_law_drawn17 (Z : Zt) : TS := (tSeq (tAsg (tCall (Fs (S_law_draws Z)) [] E0 (tCons (tVar 2) (tCons (tC (.int 14)) (tCons (tC (.int 1000)) tNil)))) (gName 4)) (r_law_drawn16 Z))
def r_law_drawn (Z : Zt) : TS := (tSeq (tAsg (tCB (rLenS Z.K) (tCons (tVar 0) tNil)) (gName 3)) (r_law_drawn17 Z))


theorem cut_take_drop {ds : List PyData} (i j : Nat) (h : i ≤ ds.length) (h2 : j ≤ ds.length) : Fz.cutD ds (some (i : Int)) (some (j : Int)) = (ds.drop i).take (j - i) := by
  unfold Fz.cutD
  rw [HT.sIx_nat, HT.sIx_nat, Nat.min_eq_left h, Nat.min_eq_left h2]
def S_law_drawn (_ : Zt) (Rs : List Pr) (R : Pr) : Prop := ∃ (ks : List Int) (hd : List (List (List Nat))) (c : Int), 2 ≤ ks.length ∧ ks.length ≤ 7 ∧ hd ≠ [] ∧ hd.length ≤ 1000 ∧ (∀ rows ∈ hd, rows.length ≤ 1000 ∧ ∀ r ∈ rows, ∀ x ∈ r, x < ks.length) ∧ Rs = [D (dIs ks), D (.list (hd.map dRs)), D (dI c)] ∧ R = PG ks.length
theorem S_law_drawn_len (Z : Zt) (Rs : List Pr) (R : Pr) (h : S_law_drawn Z Rs R) : Rs.length = 3 := by
  obtain ⟨_, _, _, _, _, _, _, _, rfl, _⟩ := h
  rfl
theorem pure_law_drawn {Z : Zt} {vs : List V} {H : Hp} {Q : VK} {E : XK} (h : Fs (S_law_drawn Z) vs H Q E) : r_law_drawn Z { nx := fun _ H' => Q .non H', rt := Q } (L2.start N_law_drawn vs) H := by
  obtain ⟨Rs, R, F, ⟨ks, hd, c, h2, h7, hn, hl, hb, rfl, rfl⟩, e, a, q⟩ := h
  refine se_body (N := N_law_drawn) (n := 13) rfl e a q ?_
  show SE F H _ [.has (D (dIs ks)), .has (D (.list (hd.map dRs))), .has (D (dI c)), .no, .no, .no, .no, .no, .no, .no, .no, .no, .no] _
  unfold r_law_drawn
  refine sq_asg (evr_lenM (evr_var rfl)) ?_
  unfold r_law_drawn17
  refine sq_asg (R := PD 14 1000) (evr_call (Rs := [D (dI c), D (dN 14), D (dN 1000)]) (eva_cons (evr_var rfl) (eva_cons evr_int (eva_cons evr_int eva_nil))) ⟨_, 14, 1000, by omega, by omega, by omega, rfl, rfl⟩) ?_
  refine se_open 4 rfl fun dr hdr => ?_
  obtain ⟨dl, _⟩ := hdr
  have hr : ∀ i, i < 14 → dr[i]? = some (dr.getD i 0) := fun i hi => getN (by omega)
  unfold r_law_drawn16
  refine sq_asg (R := D (dN (dr.getD 0 0 % 8))) (evr_modN (n := 8) (evr_ixN (i := 0) (evr_var rfl) evr_int (hr 0 (by omega))) evr_int (by omega)) ?_
  generalize dr.getD 0 0 % 8 = way
  unfold r_law_drawn15
  refine sq_ifx (evt_eqN (n := 0) (evr_var rfl) evr_int) (fun _ => ?_) fun _ => ?_
  · refine se_ret (exp_in (z := (List.range ks.length).map fun k => dr.getD (k + 1) 0 % (k + 1)) (by rw [List.length_map, List.length_range]) ?_)
    refine evr_call (Rs := [D (dNs ((List.range ks.length).map fun k => dr.getD (k + 1) 0 % (k + 1)))]) (eva_cons ?_ eva_nil) ⟨_, by rw [List.length_map, List.length_range]; omega, rfl, rfl⟩
    have em : dNs ((List.range ks.length).map fun k => dr.getD (k + 1) 0 % (k + 1)) = .list ((List.range ks.length).map fun k => dN (dr.getD (k + 1) 0 % (k + 1))) := by show PyData.list _ = _; rw [List.map_map]; rfl
    rw [em]
    exact EvN.r (evn_lcRy (fun k => dN (dr.getD (k + 1) 0 % (k + 1))) (evr_var rfl) (by omega) fun k hk => evr_modN (evr_ixN (i := k + 1) (evr_var rfl) (evr_addN (n := 1) (evr_var rfl) evr_int) (hr _ (by omega))) (evr_addN (n := 1) (evr_var rfl) evr_int) (by omega))
  unfold r_law_drawn14
  refine sq_ifx (evt_eqN (n := 1) (evr_var rfl) evr_int) (fun _ => ?_) fun _ => ?_
  · refine sq_own evn_nil ?_
    unfold r_law_drawn4
    refine se_seq (fun env => ∃ (l : List Nat) (x y z u w s : Sl), l.length = ks.length ∧ env = [.has (D (dIs ks)), .has (D (.list (hd.map dRs))), .has (D (dI c)), .has (D (dN ks.length)), .has (D (dNs dr)), .has (D (dN way)), .own (l.map dN), x, y, z, u, w, s])
      (se_forR1 (n := ks.length) (evr_var rfl) (by omega) (fun i env => ∃ (l : List Nat) (x y z u w s : Sl), l.length = i ∧ env = [.has (D (dIs ks)), .has (D (.list (hd.map dRs))), .has (D (dI c)), .has (D (dN ks.length)), .has (D (dNs dr)), .has (D (dN way)), .own (l.map dN), x, y, z, u, w, s])
        ⟨[], _, _, _, _, _, _, rfl, rfl⟩ (fun k env' hk iv => ?_) fun env' iv => iv) ?_
    · obtain ⟨l, x, y, z, u, w, s, ll, rfl⟩ := iv
      unfold r_law_drawn2
      refine sq_asg (R := D (dNs ([k] ++ ((List.range k).filter fun x => eqo ks x k).map fun x => l.getD x 0))) ?_ ?_
      · refine EvN.r (evn_catM (enc := dN) (xs := [k]) (EvN.r (evn_one (evr_var rfl))) (EvN.r (evn_own 6 rfl ?_ ?_)) ?_)
        · have em : (((List.range k).filter fun x => eqo ks x k).map fun x => l.getD x 0).map dN = ((List.range k).filter fun x => eqo ks x k).map fun x => dN (l.getD x 0) := by rw [List.map_map]; rfl
          rw [em]
          exact evn_lcR1 (fun x => eqo ks x k) (fun x => dN (l.getD x 0)) (evr_var rfl) (by omega) (fun x hx =>
            evt_is (evt_eqI (evr_ixI (evr_var rfl) (evr_var rfl) (getI (by omega))) (evr_ixI (evr_var rfl) (evr_var rfl) (getI (by omega)))) (by rw [eqo_at (getI (by omega)) (getI (by omega))]))
            fun x hx _ => evr_ixN (evr_var rfl) (evr_var rfl) (getN (by omega))
        · rw [List.all_map]
          exact List.all_eq_true.mpr fun _ _ => rfl
        · have : ((List.range k).filter fun x => eqo ks x k).length ≤ (List.range k).length := List.length_filter_le _ _
          rw [List.length_range] at this
          rw [List.length_map]
          show 1 + _ ≤ _
          omega
      · have hne : [k] ++ ((List.range k).filter fun x => eqo ks x k).map (fun x => l.getD x 0) ≠ [] := by simp
        generalize [k] ++ ((List.range k).filter fun x => eqo ks x k).map (fun x => l.getD x 0) = hm at hne
        unfold r_law_drawn1
        refine se_app rfl (ev_pick (evr_var rfl) (evr_ixN (i := k + 1) (evr_var rfl) (evr_addN (n := 1) (evr_var rfl) evr_int) (hr _ (by omega))) hne) (by rw [List.length_map]; omega) ?_
        have em : l.map dN ++ [dN (hm.getD (dr.getD (k + 1) 0 % hm.length) 0)] = (l ++ [hm.getD (dr.getD (k + 1) 0 % hm.length) 0]).map dN := by
          rw [List.map_append]
          rfl
        rw [em]
        exact ⟨l ++ [hm.getD (dr.getD (k + 1) 0 % hm.length) 0], _, _, _, _, _, _, by simp; omega, rfl⟩
    · rintro _ ⟨l, x, y, z, u, w, s, ll, rfl⟩
      unfold r_law_drawn3
      exact se_freeze 6 rfl (se_ret (exp_in (z := l) ll (evr_call (Rs := [D (dNs l)]) (eva_cons (evr_var rfl) eva_nil) ⟨l, by omega, rfl, rfl⟩)))
  unfold r_law_drawn13
  refine sq_ifx (evt_eqN (n := 2) (evr_var rfl) evr_int) (fun _ => ?_) fun _ => ?_
  · refine sq_own (evn_call (Rs := [D (dN ks.length)]) (eva_cons (evr_var rfl) eva_nil) ⟨ks.length, by omega, by omega, rfl, rfl⟩) ?_
    unfold r_law_drawn9
    refine se_seq (fun env => ∃ (prs : List (Nat × Nat)) (x y z u w s : Sl), (∀ q ∈ prs, q.1 < ks.length ∧ q.2 < ks.length) ∧ env = [.has (D (dIs ks)), .has (D (.list (hd.map dRs))), .has (D (dI c)), .has (D (dN ks.length)), .has (D (dNs dr)), .has (D (dN way)), x, y, z, .own (prs.map dP), u, w, s])
      (se_forR1 (n := 3) evr_int (by omega) (fun i env => ∃ (prs : List (Nat × Nat)) (x y z u w s : Sl), prs.length ≤ 100 + i ∧ (∀ q ∈ prs, q.1 < ks.length ∧ q.2 < ks.length) ∧ env = [.has (D (dIs ks)), .has (D (.list (hd.map dRs))), .has (D (dI c)), .has (D (dN ks.length)), .has (D (dNs dr)), .has (D (dN way)), x, y, z, .own (prs.map dP), u, w, s])
        ⟨closedP ks.length, _, _, _, _, _, _, by rw [closedP_len]; omega, closedP_in (by omega), rfl⟩ (fun i env' hi iv => ?_) fun env' iv => ?_) ?_
    · obtain ⟨prs, x, y, z, u, w, s, pl, pb, rfl⟩ := iv
      have ho : dr.getD (2 * i + 1) 0 % ks.length < ks.length := Nat.mod_lt _ (by omega)
      unfold r_law_drawn7
      refine sq_asg (R := D (dN (dr.getD (2 * i + 1) 0 % ks.length))) (evr_modN (evr_ixN (i := 2 * i + 1) (evr_var rfl) (evr_addN (n := 1) (evr_mulN (m := 2) evr_int (evr_var rfl) (by omega)) evr_int) (hr _ (by omega))) (evr_var rfl) (by omega)) ?_
      generalize dr.getD (2 * i + 1) 0 % ks.length = one at ho
      unfold r_law_drawn6
      refine sq_asg (R := D (dNs (ptAt (eqo ks) ks.length one))) (EvN.r (ev_alike (n := ks.length) (one := one) rfl rfl rfl (by decide) (by decide) (show 12 < 13 by decide) rfl ho (by omega))) ?_
      have hne : ptAt (eqo ks) ks.length one ≠ [] := ptAt_ne ho (eqo_refl ks one)
      have hpk : ∀ m, (ptAt (eqo ks) ks.length one).getD (m % (ptAt (eqo ks) ks.length one).length) 0 < ks.length := fun m => (ptAt_mem (pick_mem hne)).1
      generalize ptAt (eqo ks) ks.length one = al at hne hpk
      unfold r_law_drawn5
      refine se_app (d := dP (one, al.getD (dr.getD (2 * i + 2) 0 % al.length) 0)) rfl (evr_tup2 (evr_var rfl) (ev_pick (evr_var rfl) (evr_ixN (i := 2 * i + 2) (evr_var rfl) (evr_addN (n := 2) (evr_mulN (m := 2) evr_int (evr_var rfl) (by omega)) evr_int) (hr _ (by omega))) hne)) (by rw [List.length_map]; omega) ?_
      have pk := hpk (dr.getD (2 * i + 2) 0)
      generalize al.getD (dr.getD (2 * i + 2) 0 % al.length) 0 = two at pk
      have em : prs.map dP ++ [dP (one, two)] = (prs ++ [(one, two)]).map dP := by
        rw [List.map_append]
        rfl
      rw [em]
      exact ⟨prs ++ [(one, two)], _, _, _, _, _, _, by rw [List.length_append]; show prs.length + 1 ≤ _; omega, fun q hq => by
        rcases List.mem_append.mp hq with z | z
        · exact pb q z
        · rw [List.mem_singleton.mp z]; exact ⟨ho, pk⟩, rfl⟩
    · obtain ⟨prs, x, y, z, u, w, s, pl, pb, rfl⟩ := iv
      exact ⟨prs, _, _, _, _, _, _, pb, rfl⟩
    · rintro _ ⟨prs, x, y, z, u, w, s, pb, rfl⟩
      unfold r_law_drawn8
      exact se_freeze 9 rfl (se_ret (exp_in (z := lab (eqo ks) ks.length prs) lab_len (evr_call (Rs := [D (dIs ks), D (.list (prs.map dP))]) (eva_cons (evr_var rfl) (eva_cons (evr_var rfl) eva_nil)) ⟨ks, prs, by omega, pb, rfl, rfl⟩)))
  unfold r_law_drawn12
  refine sq_ifx (evt_or (evt_eqN (n := 3) (evr_var rfl) evr_int) fun _ => evt_eqN (n := 7) (evr_var rfl) evr_int) (fun _ => ?_) fun _ => ?_
  · refine se_ret (evr_call (Rs := [D (dIs ks), D (dNs ((dr.drop 1).take 13))]) (eva_cons (evr_var rfl) (eva_cons (EvN.r ?_) eva_nil)) ⟨ks, _, h2, h7, by rw [List.length_take, List.length_drop]; omega, rfl, rfl⟩)
    have := evn_slice (K := Z.K) (env := [Sl.has (D (dIs ks)), .has (D (.list (hd.map dRs))), .has (D (dI c)), .has (D (dN ks.length)), .has (D (dNs dr)), .has (D (dN way)), .no, .no, .no, .no, .no, .no, .no]) (te := tVar 4) (ds := dr.map dN) (evr_var rfl) (evo_some (te := tC (.int 1)) (i := ((1 : Nat) : Int)) evr_int) (evo_some (te := tC (.int 14)) (i := ((14 : Nat) : Int)) evr_int)
    rw [cut_take_drop 1 14 (by rw [List.length_map]; omega) (by rw [List.length_map]; omega), ← List.map_drop, ← List.map_take] at this
    exact this
  unfold r_law_drawn11
  have hp : hd[dr.getD 1 0 % hd.length]? = some (hd.getD (dr.getD 1 0 % hd.length) []) := by
    have hl0 : 0 < hd.length := List.length_pos_iff.mpr hn
    rw [getD_lt (Nat.mod_lt _ hl0)]
    exact List.getElem?_eq_getElem _
  have hb2 := hb _ (List.mem_of_getElem? hp)
  generalize hd.getD (dr.getD 1 0 % hd.length) [] = rows at hp hb2
  refine sq_asg (R := PNs ks.length) (evr_call (Rs := [D (dN ks.length), D (dRs rows)]) (eva_cons (evr_var rfl) (eva_cons (evr_ixM (enc := dRs) (evr_var rfl) (evr_modN (evr_ixN (i := 1) (evr_var rfl) evr_int (hr 1 (by omega))) (evr_lenM (evr_var rfl)) (List.length_pos_iff.mpr hn)) hp) eva_nil)) ⟨ks.length, rows, by omega, hb2.1, hb2.2, rfl, rfl⟩) ?_
  refine se_open 6 rfl fun l hl => ?_
  have hl : l.length = ks.length := hl
  unfold r_law_drawn10
  refine se_ret ?_
  refine evr_callX (c := fun l : List Nat => l.length = ks.length) (Rz := fun l => D (dNs l)) (hl ▸ evr_call (Rs := [D (dNs l), D (dIs ks), D (dNs dr)]) (eva_cons (evr_var rfl) (eva_cons (evr_var rfl) (eva_cons (evr_var rfl) eva_nil))) ⟨l, ks, dr, hl.symm, by omega, by omega, dl, rfl, rfl⟩) fun l' hl' => ⟨l', by have : l'.length = ks.length := hl'; omega, rfl, rfl⟩

def L_law_drawn : Nat := 4
abbrev P_law_drawn : List Str := ["_law_kinds_here", "_law_had_here", "_law_cell_here"]
theorem cal_law_drawn {P : Program} {w : World} {Z : Zt} {mg : Str → Option Value} {base : Heap} {f : Addr} {fd : FuncData} (F : Fun Z.K "_law_drawn" "_law_drawn" st_law_drawn f fd) (gf : mg "_law_drawn" = some (.ref f)) (T : Tx0 mg) (C_law_draws : Cal P w Z.K mg base "_law_draws" L_law_draws P_law_draws (Fs (S_law_draws Z))) (C_law_parts : Cal P w Z.K mg base "_law_parts" L_law_parts P_law_parts (Fs (S_law_parts Z))) (C_law_closed : Cal P w Z.K mg base "_law_closed" L_law_closed P_law_closed (Fn (S_law_closed Z))) (C_law_groups : Cal P w Z.K mg base "_law_groups" L_law_groups P_law_groups (Fs (S_law_groups Z))) (C_law_book : Cal P w Z.K mg base "_law_book" L_law_book P_law_book (Fs (S_law_book Z))) (C_law_labels : Cal P w Z.K mg base "_law_labels" L_law_labels P_law_labels (Fs (S_law_labels Z))) (C_law_near : Cal P w Z.K mg base "_law_near" L_law_near P_law_near (Fs (S_law_near Z))) : Cal P w Z.K mg base "_law_drawn" L_law_drawn P_law_drawn (Fs (S_law_drawn Z)) := by
  refine ⟨f, fd, gf, F.kp, F.binds fun _ _ _ _ _ _ us hl => match us, hl with | [_, _, _], _ => rfl, F.ok sc_law_drawn (fun vs H Q E h => Fs.len (S := S_law_drawn Z) (n := 3) (S_law_drawn_len Z) h) (fun cdv A outer s H vs Q E hr h => ⟨r_law_drawn Z, PSs.nox ?_, pure_law_drawn h⟩)⟩
  have hu := hr.units
  have hu65 := room65 hr
  have hu64 := room64 hr
  exact (pss_cons (ps_set (i := 3) sc_law_drawn.nd rfl (Or.inl rfl) (pe_callB call_len_seq (by rfl) T.len PySem.boot_len (pa_cons (pv 0) pa_nil))) (pss_cons (ps_set (i := 4) sc_law_drawn.nd rfl (Or.inr rfl) (pe_cal C_law_draws (hr.mono (by decide)) (pa_cons (pv 2) (pa_cons pe_int (pa_cons pe_int pa_nil))))) (pss_cons (ps_set (i := 5) sc_law_drawn.nd rfl (Or.inl rfl) (pe_op op_mod (pe_ix ix_list (pv 4) pe_int (fun _ _ => rfl)) pe_int)) (pss_cons (ps_if (pt_cmpR op_eq (pv 5) pe_int (nomark _)) (pss_one (ps_ret (pe_cal C_law_parts (hr.mono (by decide)) (pa_cons (pe_lc (own := [("_law_k", 7)]) (g := gName 7) (tt := tYes) rfl sc_law_drawn.nd (pi_range1 rfl T.range (pa_cons (pv 3) pa_nil)) (blkOk_by (own := [("_law_k", 7)]) (N := N_law_drawn) (sc := defScope st_law_drawn) (by decide +kernel)) (fun _ _ _ _ _ => pg_name (i := 7) sc_law_drawn.nd rfl (Or.inl rfl)) (fun _ _ _ _ _ => pts_nil) (fun _ _ _ _ _ => (pe_op op_mod (pe_ix ix_list (pv 4) (pe_op op_add (pv 7) pe_int) (fun _ _ => rfl)) (pe_op op_add (pv 7) pe_int)))) pa_nil)))) pss_nil) (pss_cons (ps_if (pt_cmpR op_eq (pv 5) pe_int (nomark _)) (pss_cons (ps_set (i := 6) sc_law_drawn.nd rfl (Or.inr rfl) (pe_lst pa_nil)) (pss_cons (ps_for PassesOwn.never rfl (pi_range1 rfl T.range (pa_cons (pv 3) pa_nil)) (pg_name (i := 7) sc_law_drawn.nd rfl (Or.inr rfl)) (pss_cons (ps_set (i := 8) sc_law_drawn.nd rfl (Or.inl rfl) (pe_op op_cat (pe_lst (pa_cons (pv 7) pa_nil)) (pe_lc (own := [("_law_x", 12)]) (g := gName 12) (tt := (tTest (tOp rEq (tOp (rIxL Z.K) (tVar 0) (tVar 12)) (tOp (rIxL Z.K) (tVar 0) (tVar 7))))) rfl sc_law_drawn.nd (pi_range1 rfl T.range (pa_cons (pv 7) pa_nil)) (blkOk_by (own := [("_law_x", 12)]) (N := N_law_drawn) (sc := defScope st_law_drawn) (by decide +kernel)) (fun _ _ _ _ _ => pg_name (i := 12) sc_law_drawn.nd rfl (Or.inl rfl)) (fun _ _ _ _ _ => (pts_one (pt_cmpR op_eq (pe_ix ix_list (pv 0) (pv 12) (fun _ _ => rfl)) (pe_ix ix_list (pv 0) (pv 7) (fun _ _ => rfl)) (nomark _)))) (fun _ _ _ _ _ => (pe_ix ix_list (pv 6) (pv 12) (fun _ _ => rfl)))))) (pss_one (ps_expr (pe_bm PySem.F.plainAttrs_list PySem.F.slot_list_append PySem.F.type_list_append mt_append (pv 6) (pa_cons (pe_ix ix_list (pv 8) (pe_op op_mod (pe_ix ix_list (pv 4) (pe_op op_add (pv 7) pe_int) (fun _ _ => rfl)) (pe_callB call_len_seq (by rfl) T.len PySem.boot_len (pa_cons (pv 8) pa_nil))) (fun _ _ => rfl)) pa_nil)))))) (pss_one (ps_ret (pe_cal C_law_parts (hr.mono (by decide)) (pa_cons (pv 6) pa_nil)))))) pss_nil) (pss_cons (ps_if (pt_cmpR op_eq (pv 5) pe_int (nomark _)) (pss_cons (ps_set (i := 9) sc_law_drawn.nd rfl (Or.inl rfl) (pe_cal C_law_closed (hr.mono (by decide)) (pa_cons (pv 3) pa_nil))) (pss_cons (ps_for PassesOwn.never rfl (pi_range1 rfl T.range (pa_cons pe_int pa_nil)) (pg_name (i := 7) sc_law_drawn.nd rfl (Or.inr rfl)) (pss_cons (ps_set (i := 10) sc_law_drawn.nd rfl (Or.inr rfl) (pe_op op_mod (pe_ix ix_list (pv 4) (pe_op op_add (pe_op op_mul pe_int (pv 7)) pe_int) (fun _ _ => rfl)) (pv 3))) (pss_cons (ps_setLc (i := 11) (own := [("_law_x", 12)]) (g := gName 12) (tt := (tTest (tOp rEq (tOp (rIxL Z.K) (tVar 0) (tVar 12)) (tOp (rIxL Z.K) (tVar 0) (tVar 10))))) rfl sc_law_drawn.nd rfl rfl (sw_true rfl rfl rfl (by decide +kernel)) (pi_range1 rfl T.range (pa_cons (pv 3) pa_nil)) (blkOk_by (own := [("_law_x", 12)]) (N := N_law_drawn) (sc := defScope st_law_drawn) (by decide +kernel)) (fun _ _ _ _ _ => pg_name (i := 12) sc_law_drawn.nd rfl (Or.inl rfl)) (fun _ _ _ _ _ => (pts_one (pt_cmpR op_eq (pe_ix ix_list (pv 0) (pv 12) (fun _ _ => rfl)) (pe_ix ix_list (pv 0) (pv 10) (fun _ _ => rfl)) (nomark _)))) (fun _ _ _ _ _ => (pv 12))) (pss_one (ps_expr (pe_bm PySem.F.plainAttrs_list PySem.F.slot_list_append PySem.F.type_list_append mt_append (pv 9) (pa_cons (pe_tup (pa_cons (pv 10) (pa_cons (pe_ix ix_list (pv 11) (pe_op op_mod (pe_ix ix_list (pv 4) (pe_op op_add (pe_op op_mul pe_int (pv 7)) pe_int) (fun _ _ => rfl)) (pe_callB call_len_seq (by rfl) T.len PySem.boot_len (pa_cons (pv 11) pa_nil))) (fun _ _ => rfl)) pa_nil))) pa_nil))))))) (pss_one (ps_ret (pe_cal C_law_groups (hr.mono (by decide)) (pa_cons (pv 0) (pa_cons (pv 9) pa_nil))))))) pss_nil) (pss_cons (ps_if (PW.pt (pw_or (pt_cmpR op_eq (pv 5) pe_int (nomark _)) (pw_or1 (pt_cmpR op_eq (pv 5) pe_int (nomark _))))) (pss_one (ps_ret (pe_cal C_law_book (hr.mono (by decide)) (pa_cons (pv 0) (pa_cons (pe_slice sl_list (pv 4) (po_some pe_int) (po_some pe_int)) pa_nil))))) pss_nil) (pss_cons (ps_set (i := 6) sc_law_drawn.nd rfl (Or.inr rfl) (pe_cal C_law_labels (hr.mono (by decide)) (pa_cons (pv 3) (pa_cons (pe_ix ix_list (pv 1) (pe_op op_mod (pe_ix ix_list (pv 4) pe_int (fun _ _ => rfl)) (pe_callB call_len_seq (by rfl) T.len PySem.boot_len (pa_cons (pv 1) pa_nil))) (fun _ _ => rfl)) pa_nil)))) (pss_one (ps_ret (pe_cal C_law_parts (hr.mono (by decide)) (pa_cons (pe_cal C_law_near (hr.mono (by decide)) (pa_cons (pv 6) (pa_cons (pv 0) (pa_cons (pv 4) pa_nil)))) pa_nil))))))))))))


end Bm

/-! text BmLw -/
set_option Elab.async false
set_option linter.all false
set_option maxRecDepth 100000
set_option maxHeartbeats 4000000
namespace Fz
open PySem L2
section
variable {F0 H0 : Hp} {t : TS} {env : List Sl} {P : Po} {te ta : TE} {R R' : Pr} {i j : Nat}
/-- what a slot holds, told more weakly -/
theorem se_weak (i : Nat) (hi : env[i]? = some (.has R)) (hw : ∀ v F, R.p v F → R'.p v F) (h : SE F0 H0 t (env.set i (.has R')) P) : SE F0 H0 t env P := fun F H σ D g o m => by
  obtain ⟨v, hv, r⟩ := o.has i _ hi
  have o' := o.setH (i := i) (hw v F r)
  have e : σ.set i (some v) = σ := by
    obtain ⟨hl, e⟩ := List.getElem?_eq_some_iff.mp hv
    rw [← e]
    simp
  rw [e] at o'
  exact h F H σ D g o' m
/-- [e for k in range(n)], of each e something is known -/
theorem evr_lcRX {ι : Type} (c : ι → Prop) (dz : ι → PyData) {n : Nat} (h : EvR ta env (D (.int (n : Int)))) (hz : n ≤ 40000) (he : ∀ k, k < n → EvR te (env.set j (.has (D (.int (k : Int))))) (ExP c fun z => D (dz z))) :
    EvR (tLc (iRng1 (tCons ta tNil)) (gName j) tYes te [j]) env (ExP (fun zs : List ι => zs.length = n ∧ ∀ z ∈ zs, c z) fun zs => D (.list (zs.map dz))) := fun H0 F H σ o e Q q =>
  h H0 F H σ o e _ fun v F1 H1 g1 r1 => by
    refine ⟨(n : Int), by rw [dn_int r1], by omega, by omega, fun A hA => ?_⟩
    have hn : ((n : Int)).toNat = n := Int.toNat_natCast n
    rw [hn]
    refine lc_range (lo := 0) (n := n) (fun i H' => ∃ zs : List ι, zs.length = i ∧ (∀ z ∈ zs, c z) ∧ ∃ F2 acc, Gr F1 H1 F2 H' ∧ F2 A = none ∧ H' A = some (.lst acc) ∧ DnA F2 acc (zs.map dz)) ⟨[], rfl, by simp, F1, [], Gr.newO g1.s hA, g1.s.free hA, upd_same, .nil⟩ (fun i H' hi pp => ?_) fun H' pp => ?_
    · obtain ⟨zs, zl, zc, F2, acc, g2, f2, h2, d2⟩ := pp
      have ei : (0 : Int) + (i : Int) = (i : Int) := Int.zero_add _
      rw [ei]
      have es : (wipe σ [j]).set j (some (V.int (i : Int))) = σ.set j (some (.int (i : Int))) := by
        show (σ.set j none).set j _ = _
        rw [List.set_set]
      refine ⟨by
        show wipe ((wipe σ [j]).set j (some (V.int (i : Int)))) [j] = wipe σ [j]
        rw [es]
        show (σ.set j (some _)).set j none = σ.set j none
        rw [List.set_set], ?_⟩
      unfold tYes
      dsimp only
      rw [if_pos rfl]
      show te ((wipe σ [j]).set j (some (V.int (i : Int)))) H' _
      rw [es]
      have o2 : Ok H0 F2 H' (σ.set j (some (V.int (i : Int)))) (env.set j (.has (D (.int (i : Int))))) := ((o.gr g1).gr g2).setH (R := D (.int (i : Int))) (.int _)
      refine he i hi H0 F2 H' _ o2 ((e.trans g1.h).trans g2.h) _ fun w F4 H4 g4 ⟨z, cz, r4⟩ => ?_
      have f4 : F4 A = none := g4.keep f2 (by rw [h2]; exact fun z => nomatch z)
      refine ⟨acc, g4.h _ _ h2, by rw [d2.len, List.length_map, sizeLine_eq]; omega, zs ++ [z], by simp [zl], fun y hy => ?_, F4, acc ++ [w], (g2.trans g4).put f4 hA, f4, upd_same, ?_⟩
      · rcases List.mem_append.mp hy with k | k
        · exact zc y k
        · rw [List.mem_singleton.mp k]; exact cz
      · rw [List.map_append]
        exact (DnA.up g4.f _ _ d2).app (.cons r4 .nil)
    · obtain ⟨zs, zl, zc, F2, acc, g2, f2, h2, d2⟩ := pp
      refine q (.ref A) (upd F2 A (.lst acc)) H' (g1.trans (g2.freeze f2 hA h2)) ⟨zs, ⟨zl, zc⟩, .lst upd_same (DnA.up (Ex.new f2) _ _ d2)⟩
end
end Fz

/-! text BmD11 -/
set_option Elab.async false
set_option linter.all false
set_option maxRecDepth 100000
set_option maxHeartbeats 4000000
namespace Bm
open PySem PySem.Spec PyProof.Rows L2 Fz
/-! ### unlike_pair -/
abbrev st_unlike_pair : Stmt := topS 11
abbrev N_unlike_pair : List Str := ["kinds", "index_of", "a", "b"]
theorem sc_unlike_pair : FnScope N_unlike_pair ["kinds", "index_of"] (defScope st_unlike_pair) := ⟨rfl, rfl, rfl, by decide +kernel, rfl, by decide +kernel, by decide +kernel⟩
def r_unlike_pair1 (Z : Zt) : TS := (tIfS (tAnd (tTest (tOp rEq (tOp (rIxL Z.K) (tVar 1) (tVar 2)) (tOp (rIxL Z.K) (tVar 1) (tVar 3)))) (tTest (tOp rNe (tOp (rIxT Z.K) (tVar 0) (tVar 2)) (tOp (rIxT Z.K) (tVar 0) (tVar 3))))) (tRet (tTup (tCons (tVar 2) (tCons (tVar 3) tNil)))) tNext)
def r_unlike_pair2 (Z : Zt) : TS := (tFor (iRng2 (tCons (tOp xAdd (tVar 2) (tC (.int 1))) (tCons (tCB (rLenS Z.K) (tCons (tVar 0) tNil)) tNil))) (gName 3) (r_unlike_pair1 Z))
def r_unlike_pair3 (Z : Zt) : TS := (tRet (tC .non))
def r_unlike_pair (Z : Zt) : TS := (tSeq (tFor (iRng1 (tCons (tCB (rLenS Z.K) (tCons (tVar 0) tNil)) tNil)) (gName 2) (r_unlike_pair2 Z)) (r_unlike_pair3 Z))


/-- None if p, else an object -/
def PNoI (p : Prop) : Pr := ⟨fun v _ => (v = .non ∧ p) ∨ ((∃ a, v = .ref a) ∧ ¬p), fun _ h => h⟩
theorem d_ref {v : V} {F : Hp} {ds : List PyData} (h : (D (.tuple ds)).p v F) : ∃ a, v = .ref a := by
  have h' : Dn F v (.tuple ds) := h
  cases h' with
  | tup _ _ => exact ⟨_, rfl⟩
theorem evr_noi {env : List Sl} {te : TE} {p : Prop} {ds : List PyData} (h : EvR te env (D (.tuple ds))) (hp : ¬p) : EvR te env (PNoI p) := h.imp fun _ _ r => .inr ⟨d_ref r, hp⟩
theorem evr_noiN {env : List Sl} {te : TE} {p : Prop} (h : EvR te env (D .none)) (hp : p) : EvR te env (PNoI p) := h.imp fun _ _ r => .inl ⟨dn_non r, hp⟩
def r1P (ks : List Int) (l : List Nat) : Prop := ∀ a b, a < b → b < ks.length → l.getD a 0 = l.getD b 0 → ks.getD a 0 = ks.getD b 0
def S_unlike_pair (_ : Zt) (Rs : List Pr) (R : Pr) : Prop := ∃ (ks : List Int) (l : List Nat), ks.length = l.length ∧ ks.length ≤ 1000 ∧ Rs = [D (.tuple (ks.map dI)), D (dNs l)] ∧ R = PNoI (r1P ks l)
theorem S_unlike_pair_len (Z : Zt) (Rs : List Pr) (R : Pr) (h : S_unlike_pair Z Rs R) : Rs.length = 2 := by
  obtain ⟨_, _, _, _, rfl, _⟩ := h
  rfl
theorem pure_unlike_pair {Z : Zt} {vs : List V} {H : Hp} {Q : VK} {E : XK} (h : Fs (S_unlike_pair Z) vs H Q E) : r_unlike_pair Z { nx := fun _ H' => Q .non H', rt := Q } (L2.start N_unlike_pair vs) H := by
  obtain ⟨Rs, R, F, ⟨ks, l, hl, hn, rfl, rfl⟩, e, a, q⟩ := h
  refine se_body (N := N_unlike_pair) (n := 4) rfl e a q ?_
  show SE F H _ [.has (D (.tuple (ks.map dI))), .has (D (dNs l)), .no, .no] _
  unfold r_unlike_pair
  refine se_seq (fun env => r1P ks l) (se_forR1 (n := ks.length) (evr_lenTM (evr_var rfl)) (by omega)
    (fun i env => ∃ x y, (∀ a b, a < i → a < b → b < ks.length → l.getD a 0 = l.getD b 0 → ks.getD a 0 = ks.getD b 0) ∧ env = [.has (D (.tuple (ks.map dI))), .has (D (dNs l)), x, y]) ⟨_, _, fun _ _ h => absurd h (by omega), rfl⟩ (fun i env' hi iv => ?_) fun env' iv => ?_) fun env' hp => ?_
  · obtain ⟨x, y, hb, rfl⟩ := iv
    unfold r_unlike_pair2
    refine se_forR2 (a := i + 1) (n := ks.length - (i + 1)) (evr_is (evr_addN (n := 1) (evr_var rfl) evr_int) rfl) (evr_is (evr_lenTM (evr_var rfl)) (by show PyData.int _ = PyData.int _; congr 1; omega)) (by omega)
      (fun j env => ∃ y, (∀ b, i < b → b < i + 1 + j → l.getD i 0 = l.getD b 0 → ks.getD i 0 = ks.getD b 0) ∧ env = [.has (D (.tuple (ks.map dI))), .has (D (dNs l)), .has (D (dN i)), y]) ⟨_, fun _ h h2 => absurd h (by omega), rfl⟩ (fun j env' hj iv => ?_) fun env' iv => ?_
    · obtain ⟨y, hc, rfl⟩ := iv
      unfold r_unlike_pair1
      refine se_if (evt_and (evt_eqN (evr_ixN (evr_var rfl) (evr_var rfl) (getN (by omega))) (evr_ixN (i := i + 1 + j) (evr_var rfl) (evr_var rfl) (getN (by omega)))) fun _ => evt_neI (evr_ixTI (evr_var rfl) (evr_var rfl) (getI (by omega))) (evr_ixTI (i := i + 1 + j) (evr_var rfl) (evr_var rfl) (getI (by omega)))) (fun h => ?_) fun h => ?_
      · refine se_ret (evr_noi (evr_tup2 (evr_var rfl) (evr_var rfl)) fun hp => ?_)
        simp only [Bool.and_eq_true, beq_iff_eq, Bool.not_eq_true', beq_eq_false_iff_ne] at h
        exact h.2 (hp i (i + 1 + j) (by omega) (by omega) h.1)
      · refine se_next ⟨_, fun b h1 h2 h3 => ?_, rfl⟩
        by_cases hb2 : b = i + 1 + j
        · subst hb2
          by_cases hk : ks.getD i 0 = ks.getD (i + 1 + j) 0
          · exact hk
          · have : (l.getD i 0 == l.getD (i + 1 + j) 0 && !(ks.getD i 0 == ks.getD (i + 1 + j) 0)) = true := by
              simp only [Bool.and_eq_true, beq_iff_eq, Bool.not_eq_true', beq_eq_false_iff_ne]
              exact ⟨h3, hk⟩
            rw [this] at h
            cases h
        · exact hc b h1 (by omega) h3
    · obtain ⟨y, hc, rfl⟩ := iv
      refine ⟨_, _, fun a b h1 h2 h3 h4 => ?_, rfl⟩
      by_cases ha : a = i
      · subst ha; exact hc b h2 (by omega) h4
      · exact hb a b (by omega) h2 h3 h4
  · obtain ⟨x, y, hb, rfl⟩ := iv
    exact fun a b h1 h2 h3 => hb a b (by omega) h1 h2 h3
  · unfold r_unlike_pair3
    exact se_ret (evr_noiN evr_non hp)

def L_unlike_pair : Nat := 1
abbrev P_unlike_pair : List Str := ["kinds", "index_of"]
theorem cal_unlike_pair {P : Program} {w : World} {Z : Zt} {mg : Str → Option Value} {base : Heap} {f : Addr} {fd : FuncData} (F : Fun Z.K "unlike_pair" "unlike_pair" st_unlike_pair f fd) (gf : mg "unlike_pair" = some (.ref f)) (T : Tx0 mg)  : Cal P w Z.K mg base "unlike_pair" L_unlike_pair P_unlike_pair (Fs (S_unlike_pair Z)) := by
  refine ⟨f, fd, gf, F.kp, F.binds fun _ _ _ _ _ _ us hl => match us, hl with | [_, _], _ => rfl, F.ok sc_unlike_pair (fun vs H Q E h => Fs.len (S := S_unlike_pair Z) (n := 2) (S_unlike_pair_len Z) h) (fun cdv A outer s H vs Q E hr h => ⟨r_unlike_pair Z, PSs.nox ?_, pure_unlike_pair h⟩)⟩
  have hu := hr.units
  have hu65 := room65 hr
  have hu64 := room64 hr
  exact (pss_cons (ps_for PassesOwn.never rfl (pi_range1 rfl T.range (pa_cons (pe_callB call_len_seq (by rfl) T.len PySem.boot_len (pa_cons (pv 0) pa_nil)) pa_nil)) (pg_name (i := 2) sc_unlike_pair.nd rfl (Or.inl rfl)) (pss_one (ps_for PassesOwn.never rfl (pi_range2 rfl T.range (pa_cons (pe_op op_add (pv 2) pe_int) (pa_cons (pe_callB call_len_seq (by rfl) T.len PySem.boot_len (pa_cons (pv 0) pa_nil)) pa_nil))) (pg_name (i := 3) sc_unlike_pair.nd rfl (Or.inl rfl)) (pss_one (ps_if (PW.pt (pw_and (pt_cmpR op_eq (pe_ix ix_list (pv 1) (pv 2) (fun _ _ => rfl)) (pe_ix ix_list (pv 1) (pv 3) (fun _ _ => rfl)) (nomark _)) (pw_and1 (pt_cmpR op_ne (pe_ix ix_tup (pv 0) (pv 2) (fun _ _ => rfl)) (pe_ix ix_tup (pv 0) (pv 3) (fun _ _ => rfl)) (nomark _))))) (pss_one (ps_ret (pe_tup (pa_cons (pv 2) (pa_cons (pv 3) pa_nil))))) pss_nil))))) (pss_one (ps_ret pe_non)))


/-! ### parted_neighbours -/
abbrev st_parted_neighbours : Stmt := topS 12
abbrev N_parted_neighbours : List Str := ["kinds", "index_of", "a", "b"]
theorem sc_parted_neighbours : FnScope N_parted_neighbours ["kinds", "index_of"] (defScope st_parted_neighbours) := ⟨rfl, rfl, rfl, by decide +kernel, rfl, by decide +kernel, by decide +kernel⟩
def r_parted_neighbours1 (Z : Zt) : TS := (tIfS (tAnd (tTest (tOp rEq (tOp (rIxT Z.K) (tVar 0) (tVar 2)) (tOp (rIxT Z.K) (tVar 0) (tVar 3)))) (tTest (tOp rNe (tOp (rIxL Z.K) (tVar 1) (tVar 2)) (tOp (rIxL Z.K) (tVar 1) (tVar 3))))) (tRet (tTup (tCons (tVar 2) (tCons (tVar 3) tNil)))) tNext)
def r_parted_neighbours2 (Z : Zt) : TS := (tSeq (tAsg (tOp xMod (tOp xAdd (tVar 2) (tC (.int 1))) (tCB (rLenS Z.K) (tCons (tVar 0) tNil))) (gName 3)) (r_parted_neighbours1 Z))
def r_parted_neighbours3 (Z : Zt) : TS := (tRet (tC .non))
def r_parted_neighbours (Z : Zt) : TS := (tSeq (tFor (iRng1 (tCons (tCB (rLenS Z.K) (tCons (tVar 0) tNil)) tNil)) (gName 2) (r_parted_neighbours2 Z)) (r_parted_neighbours3 Z))


def r2P (ks : List Int) (l : List Nat) : Prop := ∀ a, a < ks.length → ks.getD a 0 = ks.getD ((a + 1) % ks.length) 0 → l.getD a 0 = l.getD ((a + 1) % ks.length) 0
def S_parted_neighbours (_ : Zt) (Rs : List Pr) (R : Pr) : Prop := ∃ (ks : List Int) (l : List Nat), ks.length = l.length ∧ ks.length ≤ 1000 ∧ Rs = [D (.tuple (ks.map dI)), D (dNs l)] ∧ R = PNoI (r2P ks l)
theorem S_parted_neighbours_len (Z : Zt) (Rs : List Pr) (R : Pr) (h : S_parted_neighbours Z Rs R) : Rs.length = 2 := by
  obtain ⟨_, _, _, _, rfl, _⟩ := h
  rfl
theorem pure_parted_neighbours {Z : Zt} {vs : List V} {H : Hp} {Q : VK} {E : XK} (h : Fs (S_parted_neighbours Z) vs H Q E) : r_parted_neighbours Z { nx := fun _ H' => Q .non H', rt := Q } (L2.start N_parted_neighbours vs) H := by
  obtain ⟨Rs, R, F, ⟨ks, l, hl, hn, rfl, rfl⟩, e, a, q⟩ := h
  refine se_body (N := N_parted_neighbours) (n := 4) rfl e a q ?_
  show SE F H _ [.has (D (.tuple (ks.map dI))), .has (D (dNs l)), .no, .no] _
  unfold r_parted_neighbours
  refine se_seq (fun env => r2P ks l) (se_forR1 (n := ks.length) (evr_lenTM (evr_var rfl)) (by omega)
    (fun i env => ∃ x y, (∀ a, a < i → ks.getD a 0 = ks.getD ((a + 1) % ks.length) 0 → l.getD a 0 = l.getD ((a + 1) % ks.length) 0) ∧ env = [.has (D (.tuple (ks.map dI))), .has (D (dNs l)), x, y]) ⟨_, _, fun _ h => absurd h (by omega), rfl⟩ (fun i env' hi iv => ?_) fun env' iv => ?_) fun env' hp => ?_
  · obtain ⟨x, y, hb, rfl⟩ := iv
    have hm : (i + 1) % ks.length < ks.length := Nat.mod_lt _ (by omega)
    unfold r_parted_neighbours2
    refine sq_asg (R := D (dN ((i + 1) % ks.length))) (evr_modN (evr_addN (n := 1) (evr_var rfl) evr_int) (evr_lenTM (evr_var rfl)) (by omega)) ?_
    unfold r_parted_neighbours1
    refine se_if (evt_and (evt_eqI (evr_ixTI (evr_var rfl) (evr_var rfl) (getI (by omega))) (evr_ixTI (evr_var rfl) (evr_var rfl) (getI hm))) fun _ => evt_neN (evr_ixN (evr_var rfl) (evr_var rfl) (getN (by omega))) (evr_ixN (evr_var rfl) (evr_var rfl) (getN (by omega)))) (fun h => ?_) fun h => ?_
    · refine se_ret (evr_noi (evr_tup2 (evr_var rfl) (evr_var rfl)) fun hp => ?_)
      simp only [Bool.and_eq_true, beq_iff_eq, bne_iff_ne] at h
      exact h.2 (hp i (by omega) h.1)
    · refine se_next ⟨_, _, fun b h1 h3 => ?_, rfl⟩
      by_cases hb2 : b = i
      · subst hb2
        by_cases hk : l.getD b 0 = l.getD ((b + 1) % ks.length) 0
        · exact hk
        · have : ((ks.getD b 0 == ks.getD ((b + 1) % ks.length) 0) && (l.getD b 0 != l.getD ((b + 1) % ks.length) 0)) = true := by
            simp only [Bool.and_eq_true, beq_iff_eq, bne_iff_ne]
            exact ⟨h3, hk⟩
          rw [this] at h
          cases h
      · exact hb b (by omega) h3
  · obtain ⟨x, y, hb, rfl⟩ := iv
    exact fun a h1 h3 => hb a (by omega) h3
  · unfold r_parted_neighbours3
    exact se_ret (evr_noiN evr_non hp)

def L_parted_neighbours : Nat := 1
abbrev P_parted_neighbours : List Str := ["kinds", "index_of"]
theorem cal_parted_neighbours {P : Program} {w : World} {Z : Zt} {mg : Str → Option Value} {base : Heap} {f : Addr} {fd : FuncData} (F : Fun Z.K "parted_neighbours" "parted_neighbours" st_parted_neighbours f fd) (gf : mg "parted_neighbours" = some (.ref f)) (T : Tx0 mg)  : Cal P w Z.K mg base "parted_neighbours" L_parted_neighbours P_parted_neighbours (Fs (S_parted_neighbours Z)) := by
  refine ⟨f, fd, gf, F.kp, F.binds fun _ _ _ _ _ _ us hl => match us, hl with | [_, _], _ => rfl, F.ok sc_parted_neighbours (fun vs H Q E h => Fs.len (S := S_parted_neighbours Z) (n := 2) (S_parted_neighbours_len Z) h) (fun cdv A outer s H vs Q E hr h => ⟨r_parted_neighbours Z, PSs.nox ?_, pure_parted_neighbours h⟩)⟩
  have hu := hr.units
  have hu65 := room65 hr
  have hu64 := room64 hr
  exact (pss_cons (ps_for PassesOwn.never rfl (pi_range1 rfl T.range (pa_cons (pe_callB call_len_seq (by rfl) T.len PySem.boot_len (pa_cons (pv 0) pa_nil)) pa_nil)) (pg_name (i := 2) sc_parted_neighbours.nd rfl (Or.inl rfl)) (pss_cons (ps_set (i := 3) sc_parted_neighbours.nd rfl (Or.inl rfl) (pe_op op_mod (pe_op op_add (pv 2) pe_int) (pe_callB call_len_seq (by rfl) T.len PySem.boot_len (pa_cons (pv 0) pa_nil)))) (pss_one (ps_if (PW.pt (pw_and (pt_cmpR op_eq (pe_ix ix_tup (pv 0) (pv 2) (fun _ _ => rfl)) (pe_ix ix_tup (pv 0) (pv 3) (fun _ _ => rfl)) (nomark _)) (pw_and1 (pt_cmpR op_ne (pe_ix ix_list (pv 1) (pv 2) (fun _ _ => rfl)) (pe_ix ix_list (pv 1) (pv 3) (fun _ _ => rfl)) (nomark _))))) (pss_one (ps_ret (pe_tup (pa_cons (pv 2) (pa_cons (pv 3) pa_nil))))) pss_nil)))) (pss_one (ps_ret pe_non)))


/-! ### parties_cross -/
abbrev st_parties_cross : Stmt := topS 13
abbrev N_parties_cross : List Str := ["index_of", "stack", "closed", "party", "above"]
theorem sc_parties_cross : FnScope N_parties_cross ["index_of"] (defScope st_parties_cross) := ⟨rfl, rfl, rfl, by decide +kernel, rfl, by decide +kernel, by decide +kernel⟩
def r_parties_cross1 (Z : Zt) : TS := (tAsg (tSl (rSlL Z.K) (tVar 1) tNoPart (tPart (tVar 4))) (gName 1))
def r_parties_cross2 (Z : Zt) : TS := (tSeq (tAsg (tOp rCat (tVar 2) (tSl (rSlL Z.K) (tVar 1) (tPart (tVar 4)) tNoPart)) (gName 2)) (r_parties_cross1 Z))
def r_parties_cross3 (Z : Zt) : TS := (tIfS (tTest (tOp (rIn Z.K false) (tVar 3) (tVar 1))) (tSeq (tAsg (tOp xAdd (tBM Z.K "list" (rIndex Z.K) (tVar 1) (tCons (tVar 3) tNil)) (tC (.int 1))) (gName 4)) (r_parties_cross2 Z)) (tDrop (tBM Z.K "list" rAppend (tVar 1) (tCons (tVar 3) tNil))))
def r_parties_cross4 (Z : Zt) : TS := (tSeq (tIfS (tTest (tOp (rIn Z.K false) (tVar 3) (tVar 2))) (tRet (tC (.bl true))) tNext) (r_parties_cross3 Z))
def r_parties_cross5 (Z : Zt) : TS := (tRet (tC (.bl false)))
def r_parties_cross6 (Z : Zt) : TS := (tSeq (tFor (iList Z.K (tVar 0)) (gName 3) (r_parties_cross4 Z)) (r_parties_cross5 Z))
def r_parties_cross7 (Z : Zt) : TS := (tSeq (tAsg (tLst tNil) (gName 2)) (r_parties_cross6 Z))
def r_parties_cross (Z : Zt) : TS := (tSeq (tAsg (tLst tNil) (gName 1)) (r_parties_cross7 Z))


theorem evr_inN {env : List Sl} {ta tb : TE} {K : PySem.W.Frag} {k : Nat} {ns : List Nat} (ha : EvR ta env (D (dN k))) (hb : EvR tb env (D (dNs ns))) : EvR (tOp (rIn K false) ta tb) env (D (.bool (ns.contains k))) := by
  have e : dNs ns = .list ((ns.map fun n : Nat => (n : Int)).map PyData.int) := by rw [List.map_map]; rfl
  rw [e] at hb
  refine evr_is (evr_inL (k := (k : Int)) ha hb) ?_
  have : decide ((k : Int) ∈ ns.map fun n : Nat => (n : Int)) = ns.contains k := by
    rw [Bool.eq_iff_iff, decide_eq_true_eq, List.mem_map, List.contains_iff_mem]
    exact ⟨fun ⟨a, h1, h2⟩ => by have : a = k := by omega
                                 rwa [← this], fun h => ⟨k, h, rfl⟩⟩
  rw [this]
def cstep (st : Option (List Nat × List Nat)) (p : Nat) : Option (List Nat × List Nat) := match st with
  | none => none
  | some (stack, closed) => if closed.contains p then none else if stack.contains p then some (stack.take (stack.idxOf p + 1), closed ++ stack.drop (stack.idxOf p + 1)) else some (stack ++ [p], closed)
def rule3 (ix : List Nat) : Bool := (ix.foldl cstep (some ([], []))).isSome
theorem cstep_none : ∀ l : List Nat, l.foldl cstep none = none
  | [] => rfl
  | _ :: l => cstep_none l
def S_parties_cross (_ : Zt) (Rs : List Pr) (R : Pr) : Prop := ∃ (l : List Nat), l.length ≤ 1000 ∧ Rs = [D (dNs l)] ∧ R = D (.bool (!rule3 l))
theorem S_parties_cross_len (Z : Zt) (Rs : List Pr) (R : Pr) (h : S_parties_cross Z Rs R) : Rs.length = 1 := by
  obtain ⟨_, _, rfl, _⟩ := h
  rfl
theorem pure_parties_cross {Z : Zt} {vs : List V} {H : Hp} {Q : VK} {E : XK} (h : Fs (S_parties_cross Z) vs H Q E) : r_parties_cross Z { nx := fun _ H' => Q .non H', rt := Q } (L2.start N_parties_cross vs) H := by
  obtain ⟨Rs, R, F, ⟨l, hl, rfl, rfl⟩, e, a, q⟩ := h
  refine se_body (N := N_parties_cross) (n := 5) rfl e a q ?_
  show SE F H _ [.has (D (dNs l)), .no, .no, .no, .no] _
  unfold r_parties_cross
  refine sq_own evn_nil ?_
  unfold r_parties_cross7
  refine sq_asg (EvN.r evn_nil) ?_
  unfold r_parties_cross6
  refine se_seq (fun env => rule3 l = true)
    (se_forLM dN (evr_var rfl) (fun i env => ∃ (st cl : List Nat) (x y : Sl), (l.take i).foldl cstep (some ([], [])) = some (st, cl) ∧ st.length + cl.length ≤ i ∧ env = [.has (D (dNs l)), .own (st.map dN), .has (D (dNs cl)), x, y])
      ⟨[], [], _, _, rfl, by simp, rfl⟩ (fun i p env' hi iv => ?_) fun env' iv => ?_) fun env' hp => ?_
  · obtain ⟨st, cl, x, y, hf, hz, rfl⟩ := iv
    have hil := (List.getElem?_eq_some_iff.mp hi).1
    have hs : (l.take (i + 1)).foldl cstep (some ([], [])) = cstep (some (st, cl)) p := by
      rw [take_succ' hi, List.foldl_append, hf]
      rfl
    unfold r_parties_cross4
    refine sq_ifx (evt_of (evr_inN (evr_var rfl) (evr_var rfl))) (fun h => ?_) fun h => ?_
    · refine se_ret (evr_is evr_bl ?_)
      have e1 : cstep (some (st, cl)) p = none := by
        unfold cstep
        exact if_pos h
      have e2 : rule3 l = false := by
        unfold rule3
        rw [← List.take_append_drop (i + 1) l, List.foldl_append, hs, e1, cstep_none]
        rfl
      rw [e2]
      rfl
    · unfold r_parties_cross3
      refine se_if (b := st.contains p) (evt_own 1 rfl (evt_of (evr_inN (evr_var rfl) (evr_var rfl)))) (fun h2 => ?_) fun h2 => ?_
      · have hm : p ∈ st := List.contains_iff_mem.mp h2
        have hk := List.idxOf_lt_length_of_mem hm
        have e1 : cstep (some (st, cl)) p = some (st.take (st.idxOf p + 1), cl ++ st.drop (st.idxOf p + 1)) := by
          show (if cl.contains p then none else if st.contains p then _ else _) = _
          rw [h, h2]
          rfl
        rw [e1] at hs
        refine sq_asg (R := D (dN (st.idxOf p + 1))) (evr_own 1 rfl (evr_addN (n := 1) (evr_indexN (evr_var rfl) (evr_var rfl) hm) evr_int) rfl) ?_
        unfold r_parties_cross2
        refine sq_asg (R := D (dNs (cl ++ st.drop (st.idxOf p + 1)))) (EvN.r (evn_own 1 rfl (evn_catM (enc := dN) (evr_var rfl) (EvN.r (evn_dropM (enc := dN) (evr_var rfl) (evr_var rfl))) (by rw [List.length_drop]; omega)) (by rw [List.all_map]; exact List.all_eq_true.mpr fun _ _ => rfl))) ?_
        unfold r_parties_cross1
        refine se_own (evn_own 1 rfl (evn_takeM (enc := dN) (evr_var rfl) (evr_var rfl)) (by rw [List.all_map]; exact List.all_eq_true.mpr fun _ _ => rfl)) ⟨st.take (st.idxOf p + 1), cl ++ st.drop (st.idxOf p + 1), _, _, hs, by simp; omega, rfl⟩
      · have e1 : cstep (some (st, cl)) p = some (st ++ [p], cl) := by
          show (if cl.contains p then none else if st.contains p then _ else _) = _
          rw [h, h2]
          rfl
        rw [e1] at hs
        refine se_app rfl (evr_var rfl) (by rw [List.length_map]; omega) ?_
        have em : st.map dN ++ [dN p] = (st ++ [p]).map dN := by
          rw [List.map_append]
          rfl
        rw [em]
        exact ⟨st ++ [p], cl, _, _, hs, by simp; omega, rfl⟩
  · obtain ⟨st, cl, x, y, hf, hz, rfl⟩ := iv
    rw [List.take_length] at hf
    show rule3 l = true
    unfold rule3
    rw [hf]
    rfl
  · unfold r_parties_cross5
    exact se_ret (evr_is evr_bl (by rw [hp]; rfl))

def L_parties_cross : Nat := 1
abbrev P_parties_cross : List Str := ["index_of"]
theorem cal_parties_cross {P : Program} {w : World} {Z : Zt} {mg : Str → Option Value} {base : Heap} {f : Addr} {fd : FuncData} (F : Fun Z.K "parties_cross" "parties_cross" st_parties_cross f fd) (gf : mg "parties_cross" = some (.ref f)) (T : Tx0 mg)  : Cal P w Z.K mg base "parties_cross" L_parties_cross P_parties_cross (Fs (S_parties_cross Z)) := by
  refine ⟨f, fd, gf, F.kp, F.binds fun _ _ _ _ _ _ us hl => match us, hl with | [_], _ => rfl, F.ok sc_parties_cross (fun vs H Q E h => Fs.len (S := S_parties_cross Z) (n := 1) (S_parties_cross_len Z) h) (fun cdv A outer s H vs Q E hr h => ⟨r_parties_cross Z, PSs.nox ?_, pure_parties_cross h⟩)⟩
  have hu := hr.units
  have hu65 := room65 hr
  have hu64 := room64 hr
  exact (pss_cons (ps_set (i := 1) sc_parties_cross.nd rfl (Or.inl rfl) (pe_lst pa_nil)) (pss_cons (ps_set (i := 2) sc_parties_cross.nd rfl (Or.inl rfl) (pe_lst pa_nil)) (pss_cons (ps_for PassesOwn.never rfl (pi_list (pv 0)) (pg_name (i := 3) sc_parties_cross.nd rfl (Or.inl rfl)) (pss_cons (ps_if (pt_cmpR op_in_seq (pv 3) (pv 2) (by rfl)) (pss_one (ps_ret pe_bl)) pss_nil) (pss_one (ps_if (pt_cmpR op_in_seq (pv 3) (pv 1) (by rfl)) (pss_cons (ps_set (i := 4) sc_parties_cross.nd rfl (Or.inl rfl) (pe_op op_add (pe_bm PySem.F.plainAttrs_list PySem.F.slot_list_index PySem.F.type_list_index mt_index (pv 1) (pa_cons (pv 3) pa_nil)) pe_int)) (pss_cons (ps_set (i := 2) sc_parties_cross.nd rfl (Or.inl rfl) (pe_op op_cat (pv 2) (pe_slice sl_list (pv 1) (po_some (pv 4)) po_none))) (pss_one (ps_set (i := 1) sc_parties_cross.nd rfl (Or.inl rfl) (pe_slice sl_list (pv 1) po_none (po_some (pv 4))))))) (pss_one (ps_expr (pe_bm PySem.F.plainAttrs_list PySem.F.slot_list_append PySem.F.type_list_append mt_append (pv 1) (pa_cons (pv 3) pa_nil)))))))) (pss_one (ps_ret pe_bl)))))


/-! ### first_crossing -/
abbrev st_first_crossing : Stmt := topS 14
abbrev N_first_crossing : List Str := ["index_of", "size", "p", "q", "r", "s"]
theorem sc_first_crossing : FnScope N_first_crossing ["index_of"] (defScope st_first_crossing) := ⟨rfl, rfl, rfl, by decide +kernel, rfl, by decide +kernel, by decide +kernel⟩
def r_first_crossing1 (Z : Zt) : TS := (tIfS (tTest (tOp rEq (tOp (rIxL Z.K) (tVar 0) (tVar 5)) (tOp (rIxL Z.K) (tVar 0) (tVar 3)))) (tRet (tTup (tCons (tVar 2) (tCons (tVar 3) (tCons (tVar 4) (tCons (tVar 5) tNil)))))) tNext)
def r_first_crossing2 (Z : Zt) : TS := (tIfS (tAnd (tTest (tOp rEq (tOp (rIxL Z.K) (tVar 0) (tVar 4)) (tOp (rIxL Z.K) (tVar 0) (tVar 2)))) (tTest (tOp rNe (tOp (rIxL Z.K) (tVar 0) (tVar 3)) (tOp (rIxL Z.K) (tVar 0) (tVar 2))))) (tFor (iRng2 (tCons (tOp xAdd (tVar 4) (tC (.int 1))) (tCons (tVar 1) tNil))) (gName 5) (r_first_crossing1 Z)) tNext)
def r_first_crossing3 (Z : Zt) : TS := (tFor (iRng2 (tCons (tOp xAdd (tVar 3) (tC (.int 1))) (tCons (tVar 1) tNil))) (gName 4) (r_first_crossing2 Z))
def r_first_crossing4 (Z : Zt) : TS := (tFor (iRng2 (tCons (tOp xAdd (tVar 2) (tC (.int 1))) (tCons (tVar 1) tNil))) (gName 3) (r_first_crossing3 Z))
def r_first_crossing5 (Z : Zt) : TS := (tRet (tC .non))
def r_first_crossing6 (Z : Zt) : TS := (tSeq (tFor (iRng1 (tCons (tVar 1) tNil)) (gName 2) (r_first_crossing4 Z)) (r_first_crossing5 Z))
def r_first_crossing (Z : Zt) : TS := (tSeq (tAsg (tCB (rLenS Z.K) (tCons (tVar 0) tNil)) (gName 1)) (r_first_crossing6 Z))


def S_first_crossing (_ : Zt) (Rs : List Pr) (R : Pr) : Prop := ∃ (l : List Nat), l.length ≤ 1000 ∧ Rs = [D (dNs l)] ∧ R = PNo
theorem S_first_crossing_len (Z : Zt) (Rs : List Pr) (R : Pr) (h : S_first_crossing Z Rs R) : Rs.length = 1 := by
  obtain ⟨_, _, rfl, _⟩ := h
  rfl
theorem evr_pno {env : List Sl} {te : TE} {ds : List PyData} (h : EvR te env (D (.tuple ds))) : EvR te env PNo := h.imp fun _ _ r => .inr (d_ref r)
theorem pure_first_crossing {Z : Zt} {vs : List V} {H : Hp} {Q : VK} {E : XK} (h : Fs (S_first_crossing Z) vs H Q E) : r_first_crossing Z { nx := fun _ H' => Q .non H', rt := Q } (L2.start N_first_crossing vs) H := by
  obtain ⟨Rs, R, F, ⟨l, hl, rfl, rfl⟩, e, a, q⟩ := h
  refine se_body (N := N_first_crossing) (n := 6) rfl e a q ?_
  show SE F H _ [.has (D (dNs l)), .no, .no, .no, .no, .no] _
  unfold r_first_crossing
  refine sq_asg (evr_lenM (evr_var rfl)) ?_
  unfold r_first_crossing6
  refine se_seq (fun env => True) (se_forR1 (n := l.length) (evr_var rfl) (by omega) (fun i env => ∃ x1 x2 x3 x4, env = [.has (D (dNs l)), .has (D (dN l.length)), x1, x2, x3, x4]) ⟨_, _, _, _, rfl⟩ (fun i env' hi iv => ?_) fun env' iv => True.intro) fun env' hp => ?_
  · obtain ⟨x1, x2, x3, x4, rfl⟩ := iv
    unfold r_first_crossing4
    refine se_forR2 (a := i + 1) (n := l.length - (i + 1)) (evr_is (evr_addN (n := 1) (evr_var rfl) evr_int) rfl) (evr_is (evr_var rfl) (by show PyData.int _ = PyData.int _; congr 1; omega)) (by omega)
      (fun j env => ∃ x2 x3 x4, env = [.has (D (dNs l)), .has (D (dN l.length)), .has (D (dN i)), x2, x3, x4]) ⟨_, _, _, rfl⟩ (fun j env' hj iv => ?_) fun env' iv => ?_
    · obtain ⟨x2, x3, x4, rfl⟩ := iv
      unfold r_first_crossing3
      refine se_forR2 (a := i + 1 + j + 1) (n := l.length - (i + 1 + j + 1)) (evr_is (evr_addN (m := i + 1 + j) (n := 1) (evr_var rfl) evr_int) rfl) (evr_is (evr_var rfl) (by show PyData.int _ = PyData.int _; congr 1; omega)) (by omega)
        (fun k env => ∃ x3 x4, env = [.has (D (dNs l)), .has (D (dN l.length)), .has (D (dN i)), .has (D (dN (i + 1 + j))), x3, x4]) ⟨_, _, rfl⟩ (fun k env' hk iv => ?_) fun env' iv => ?_
      · obtain ⟨x3, x4, rfl⟩ := iv
        unfold r_first_crossing2
        refine se_if (evt_and (evt_eqN (evr_ixN (i := i + 1 + j + 1 + k) (evr_var rfl) (evr_var rfl) (getN (by omega))) (evr_ixN (evr_var rfl) (evr_var rfl) (getN (by omega)))) fun _ => evt_neN (evr_ixN (i := i + 1 + j) (evr_var rfl) (evr_var rfl) (getN (by omega))) (evr_ixN (evr_var rfl) (evr_var rfl) (getN (by omega)))) (fun h => ?_) fun h => se_next ⟨_, _, rfl⟩
        refine se_forR2 (a := i + 1 + j + 1 + k + 1) (n := l.length - (i + 1 + j + 1 + k + 1)) (evr_is (evr_addN (m := i + 1 + j + 1 + k) (n := 1) (evr_var rfl) evr_int) rfl) (evr_is (evr_var rfl) (by show PyData.int _ = PyData.int _; congr 1; omega)) (by omega)
          (fun m env => ∃ x4, env = [.has (D (dNs l)), .has (D (dN l.length)), .has (D (dN i)), .has (D (dN (i + 1 + j))), .has (D (dN (i + 1 + j + 1 + k))), x4]) ⟨_, rfl⟩ (fun m env' hm iv => ?_) fun env' iv => ?_
        · obtain ⟨x4, rfl⟩ := iv
          unfold r_first_crossing1
          refine se_if (evt_eqN (evr_ixN (i := i + 1 + j + 1 + k + 1 + m) (evr_var rfl) (evr_var rfl) (getN (by omega))) (evr_ixN (i := i + 1 + j) (evr_var rfl) (evr_var rfl) (getN (by omega)))) (fun h => ?_) fun h => se_next ⟨_, rfl⟩
          exact se_ret (evr_pno (evr_tup (ds := [dN i, dN (i + 1 + j), dN (i + 1 + j + 1 + k), dN (i + 1 + j + 1 + k + 1 + m)]) (eva_cons (evr_var rfl) (eva_cons (evr_var rfl) (eva_cons (evr_var rfl) (eva_cons (evr_var rfl) eva_nil)))) (by show 4 ≤ _; decide)))
        · obtain ⟨x4, rfl⟩ := iv
          exact ⟨_, _, rfl⟩
      · obtain ⟨x3, x4, rfl⟩ := iv
        exact ⟨_, _, _, rfl⟩
    · obtain ⟨x2, x3, x4, rfl⟩ := iv
      exact ⟨_, _, _, _, rfl⟩
  · unfold r_first_crossing5
    exact se_ret (evr_non.imp fun _ _ r => .inl (dn_non r))

def L_first_crossing : Nat := 1
abbrev P_first_crossing : List Str := ["index_of"]
theorem cal_first_crossing {P : Program} {w : World} {Z : Zt} {mg : Str → Option Value} {base : Heap} {f : Addr} {fd : FuncData} (F : Fun Z.K "first_crossing" "first_crossing" st_first_crossing f fd) (gf : mg "first_crossing" = some (.ref f)) (T : Tx0 mg)  : Cal P w Z.K mg base "first_crossing" L_first_crossing P_first_crossing (Fs (S_first_crossing Z)) := by
  refine ⟨f, fd, gf, F.kp, F.binds fun _ _ _ _ _ _ us hl => match us, hl with | [_], _ => rfl, F.ok sc_first_crossing (fun vs H Q E h => Fs.len (S := S_first_crossing Z) (n := 1) (S_first_crossing_len Z) h) (fun cdv A outer s H vs Q E hr h => ⟨r_first_crossing Z, PSs.nox ?_, pure_first_crossing h⟩)⟩
  have hu := hr.units
  have hu65 := room65 hr
  have hu64 := room64 hr
  exact (pss_cons (ps_set (i := 1) sc_first_crossing.nd rfl (Or.inl rfl) (pe_callB call_len_seq (by rfl) T.len PySem.boot_len (pa_cons (pv 0) pa_nil))) (pss_cons (ps_for PassesOwn.never rfl (pi_range1 rfl T.range (pa_cons (pv 1) pa_nil)) (pg_name (i := 2) sc_first_crossing.nd rfl (Or.inl rfl)) (pss_one (ps_for PassesOwn.never rfl (pi_range2 rfl T.range (pa_cons (pe_op op_add (pv 2) pe_int) (pa_cons (pv 1) pa_nil))) (pg_name (i := 3) sc_first_crossing.nd rfl (Or.inl rfl)) (pss_one (ps_for PassesOwn.never rfl (pi_range2 rfl T.range (pa_cons (pe_op op_add (pv 3) pe_int) (pa_cons (pv 1) pa_nil))) (pg_name (i := 4) sc_first_crossing.nd rfl (Or.inl rfl)) (pss_one (ps_if (PW.pt (pw_and (pt_cmpR op_eq (pe_ix ix_list (pv 0) (pv 4) (fun _ _ => rfl)) (pe_ix ix_list (pv 0) (pv 2) (fun _ _ => rfl)) (nomark _)) (pw_and1 (pt_cmpR op_ne (pe_ix ix_list (pv 0) (pv 3) (fun _ _ => rfl)) (pe_ix ix_list (pv 0) (pv 2) (fun _ _ => rfl)) (nomark _))))) (pss_one (ps_for PassesOwn.never rfl (pi_range2 rfl T.range (pa_cons (pe_op op_add (pv 4) pe_int) (pa_cons (pv 1) pa_nil))) (pg_name (i := 5) sc_first_crossing.nd rfl (Or.inl rfl)) (pss_one (ps_if (pt_cmpR op_eq (pe_ix ix_list (pv 0) (pv 5) (fun _ _ => rfl)) (pe_ix ix_list (pv 0) (pv 3) (fun _ _ => rfl)) (nomark _)) (pss_one (ps_ret (pe_tup (pa_cons (pv 2) (pa_cons (pv 3) (pa_cons (pv 4) (pa_cons (pv 5) pa_nil))))))) pss_nil)))) pss_nil))))))) (pss_one (ps_ret pe_non))))


end Bm

/-! text BmD12 -/
set_option Elab.async false
set_option linter.all false
set_option maxRecDepth 100000
set_option maxHeartbeats 4000000
namespace Bm
open PySem PySem.Spec PyProof.Rows L2 Fz ClX PpSet
/-! ### check_rules -/
abbrev st_check_rules : Stmt := topS 15
abbrev N_check_rules : List Str := ["kinds", "index_of", "pair"]
theorem sc_check_rules : FnScope N_check_rules ["kinds", "index_of"] (defScope st_check_rules) := ⟨rfl, rfl, rfl, by decide +kernel, rfl, by decide +kernel, by decide +kernel⟩
def r_check_rules1 (Z : Zt) (E : XK) : TS := (tIfS (tB (tCall (Fs (S_parties_cross Z)) [] E0 (tCons (tVar 1) tNil))) (tRaiseBad Z.CE (fun cls d _ H => E cls d H) (tCons (tC (.int 3)) (tCons (tCall (Fs (S_first_crossing Z)) [] E0 (tCons (tVar 1) tNil)) tNil))) tNext)
def r_check_rules2 (Z : Zt) (E : XK) : TS := (tSeq (tIfS (tTest (tOp xNotN (tVar 2) (tC .non))) (tRaiseBad Z.CE (fun cls d _ H => E cls d H) (tCons (tC (.int 2)) (tCons (tVar 2) tNil))) tNext) (r_check_rules1 Z E))
def r_check_rules3 (Z : Zt) (E : XK) : TS := (tSeq (tAsg (tCall (Fs (S_parted_neighbours Z)) [] E0 (tCons (tVar 0) (tCons (tVar 1) tNil))) (gName 2)) (r_check_rules2 Z E))
def r_check_rules4 (Z : Zt) (E : XK) : TS := (tSeq (tIfS (tTest (tOp xNotN (tVar 2) (tC .non))) (tRaiseBad Z.CE (fun cls d _ H => E cls d H) (tCons (tC (.int 1)) (tCons (tVar 2) tNil))) tNext) (r_check_rules3 Z E))
def r_check_rules (Z : Zt) (E : XK) : TS := (tSeq (tAsg (tCall (Fs (S_unlike_pair Z)) [] E0 (tCons (tVar 0) (tCons (tVar 1) tNil))) (gName 2)) (r_check_rules4 Z E))


def RulesP (ks : List Int) (l : List Nat) : Prop := r1P ks l ∧ r2P ks l ∧ rule3 l = true
def S_check_rules (_ : Zt) (Rs : List Pr) (ok : Prop) (R : Pr) : Prop := ∃ (ks : List Int) (l : List Nat), ks.length = l.length ∧ ks.length ≤ 1000 ∧ Rs = [D (.tuple (ks.map dI)), D (dNs l)] ∧ ok = RulesP ks l ∧ R = D .none
theorem S_check_rules_len (Z : Zt) (Rs : List Pr) (ok : Prop) (R : Pr) (h : S_check_rules Z Rs ok R) : Rs.length = 2 := by
  obtain ⟨_, _, _, _, rfl, _⟩ := h
  rfl
theorem noi_test {env : List Sl} {te : TE} {p : Prop} (h : EvR te env (PNoI p)) (hp : p) : EvT (tTest (tOp xNotN te (tC .non))) env false := evt_of (evr_notN (b := false) rfl h fun v F r => by
  rcases r with ⟨rfl, _⟩ | ⟨_, z⟩
  · rfl
  · exact absurd hp z)
theorem noi_testN {env : List Sl} {te : TE} {p : Prop} (h : EvR te env (PNoI p)) (hp : ¬p) : EvT (tTest (tOp xNotN te (tC .non))) env true := evt_of (evr_notN (b := true) rfl h fun v F r => by
  rcases r with ⟨_, z⟩ | ⟨⟨a, rfl⟩, _⟩
  · exact absurd z hp
  · rfl)
theorem pure_check_rules {Z : Zt} {vs : List V} {H : Hp} {Q : VK} {E : XK} (h : Fx Z.CE (S_check_rules Z) vs H Q E) : r_check_rules Z E { nx := fun _ H' => Q .non H', rt := Q } (L2.start N_check_rules vs) H := by
  obtain ⟨Rs, ok, R, F, ⟨ks, l, hl, hn, rfl, rfl, rfl⟩, e, a, q, x⟩ := h
  refine se_bodyX (N := N_check_rules) (n := 3) rfl e a q ?_
  show SE F H _ [.has (D (.tuple (ks.map dI))), .has (D (dNs l)), .no] _
  unfold r_check_rules
  refine sq_asg (R := PNoI (r1P ks l)) (evr_call (Rs := [D (.tuple (ks.map dI)), D (dNs l)]) (eva_cons (evr_var rfl) (eva_cons (evr_var rfl) eva_nil)) ⟨ks, l, hl, hn, rfl, rfl⟩) ?_
  unfold r_check_rules4
  by_cases h1 : r1P ks l
  · refine sq_ifx (noi_test (evr_var rfl) h1) (fun z => by cases z) fun _ => ?_
    unfold r_check_rules3
    refine sq_asg (R := PNoI (r2P ks l)) (evr_call (Rs := [D (.tuple (ks.map dI)), D (dNs l)]) (eva_cons (evr_var rfl) (eva_cons (evr_var rfl) eva_nil)) ⟨ks, l, hl, hn, rfl, rfl⟩) ?_
    unfold r_check_rules2
    by_cases h2 : r2P ks l
    · refine sq_ifx (noi_test (evr_var rfl) h2) (fun z => by cases z) fun _ => ?_
      unfold r_check_rules1
      refine se_if (evt_B (evr_call (Rs := [D (dNs l)]) (eva_cons (evr_var rfl) eva_nil) ⟨l, by omega, rfl, rfl⟩)) (fun h3 => ?_) fun h3 => ?_
      · have h3' : ¬ rule3 l = true := fun z => by rw [z] at h3; cases h3
        exact se_raiseBad (k := 3) (eva_cons evr_int (eva_cons (evr_call (Rs := [D (dNs l)]) (eva_cons (evr_var rfl) eva_nil) ⟨l, by omega, rfl, rfl⟩) eva_nil)) (x fun z => h3' z.2.2)
      · have h3' : rule3 l = true := by
          cases z : rule3 l with
          | true => rfl
          | false => rw [z] at h3; cases h3
        exact se_next ⟨⟨h1, h2, h3'⟩, fun _ => .non⟩
    · exact sq_ifx (noi_testN (evr_var rfl) h2) (fun _ => se_raiseBad (k := 2) (eva_cons evr_int (eva_cons (evr_var rfl) eva_nil)) (x fun z => h2 z.2.1)) fun z => by cases z
  · exact sq_ifx (noi_testN (evr_var rfl) h1) (fun _ => se_raiseBad (k := 1) (eva_cons evr_int (eva_cons (evr_var rfl) eva_nil)) (x fun z => h1 z.1)) fun z => by cases z

def L_check_rules : Nat := 2
abbrev P_check_rules : List Str := ["kinds", "index_of"]
theorem cal_check_rules {P : Program} {w : World} {Z : Zt} {mg : Str → Option Value} {base : Heap} {f : Addr} {fd : FuncData} (F : Fun Z.K "check_rules" "check_rules" st_check_rules f fd) (gf : mg "check_rules" = some (.ref f)) (T : Tx0 mg) (C_unlike_pair : Cal P w Z.K mg base "unlike_pair" L_unlike_pair P_unlike_pair (Fs (S_unlike_pair Z))) (C_parted_neighbours : Cal P w Z.K mg base "parted_neighbours" L_parted_neighbours P_parted_neighbours (Fs (S_parted_neighbours Z))) (C_parties_cross : Cal P w Z.K mg base "parties_cross" L_parties_cross P_parties_cross (Fs (S_parties_cross Z))) (C_first_crossing : Cal P w Z.K mg base "first_crossing" L_first_crossing P_first_crossing (Fs (S_first_crossing Z))) {fI : Addr} (B : PySem.BadX.BadTxt P Z.K mg Z.CE fI) : Calx P w Z.K mg base "check_rules" L_check_rules P_check_rules (Fx Z.CE (S_check_rules Z)) := by
  refine ⟨f, fd, gf, F.kp, F.binds fun _ _ _ _ _ _ us hl => match us, hl with | [_, _], _ => rfl, F.okX sc_check_rules (fun vs H Q E h => Fx.len (CE := Z.CE) (S := S_check_rules Z) (n := 2) (S_check_rules_len Z) h) (fun cdv A outer s H vs Q E hr h => ⟨r_check_rules Z E, ?_, pure_check_rules h⟩)⟩
  have hu := hr.units
  have hu65 := room65 hr
  have hu64 := room64 hr
  exact (pss_cons (ps_set (i := 2) sc_check_rules.nd rfl (Or.inl rfl) (pe_cal C_unlike_pair (hr.mono (by decide)) (pa_cons (pv 0) (pa_cons (pv 1) pa_nil)))) (pss_cons (ps_if (pt_cmpR op_notN (pv 2) pe_non (nomark _)) (pss_one (ps_raiseBad rfl B (hr.mono (by decide : 0 ≤ _)) (takes_of rfl rfl rfl rfl) (pa_cons pe_int (pa_cons (pv 2) pa_nil)))) pss_nil) (pss_cons (ps_set (i := 2) sc_check_rules.nd rfl (Or.inl rfl) (pe_cal C_parted_neighbours (hr.mono (by decide)) (pa_cons (pv 0) (pa_cons (pv 1) pa_nil)))) (pss_cons (ps_if (pt_cmpR op_notN (pv 2) pe_non (nomark _)) (pss_one (ps_raiseBad rfl B (hr.mono (by decide : 0 ≤ _)) (takes_of rfl rfl rfl rfl) (pa_cons pe_int (pa_cons (pv 2) pa_nil)))) pss_nil) (pss_one (ps_if (pt_val (pe_cal C_parties_cross (hr.mono (by decide)) (pa_cons (pv 1) pa_nil))) (pss_one (ps_raiseBad rfl B (hr.mono (by decide : 0 ≤ _)) (takes_of rfl rfl rfl rfl) (pa_cons pe_int (pa_cons (pe_cal C_first_crossing (hr.mono (by decide)) (pa_cons (pv 1) pa_nil)) pa_nil)))) pss_nil))))))


end Bm

/-! text BmD14 -/
set_option Elab.async false
set_option linter.all false
set_option maxRecDepth 100000
set_option maxHeartbeats 4000000
namespace Bm
open PySem PySem.Spec PyProof.Rows L2 Fz ClX PpSet
/-! ### Book.__init__ -/
abbrev st_Binit : Stmt := inClass (topS 16) 0
abbrev N_Binit : List Str := ["self", "strand", "parties", "rows", "beads", "index_of", "index", "row", "bead", "party"]
theorem sc_Binit : FnScope N_Binit ["self", "strand", "parties"] (defScope st_Binit) := ⟨rfl, rfl, rfl, by decide +kernel, rfl, by decide +kernel, by decide +kernel⟩
def r_Binit1 (Z : Zt) (E : XK) : TS := (tAsg (tVar 6) (gSub (tVar 5) (tVar 8) rSetL))
def r_Binit2 (Z : Zt) (E : XK) : TS := (tFor (iTup Z.K (tVar 7)) (gName 8) (r_Binit1 Z E))
def r_Binit3 (Z : Zt) (E : XK) : TS := (sFld Z.K (tVar 0) (tThen (tVar 5) (kTup Z.K)) "_index_of")
def r_Binit4 (Z : Zt) (E : XK) : TS := (tSeq (sFld Z.K (tVar 0) (tCB (rLenS Z.K) (tCons (tLc (iList Z.K (tVar 3)) (gName 7) (tTest (tOp rEq (tCB (rLenS Z.K) (tCons (tVar 7) tNil)) (tC (.int 1)))) (tVar 7) [7]) tNil)) "lone") (r_Binit3 Z E))
def r_Binit5 (Z : Zt) (E : XK) : TS := (tSeq (sFld Z.K (tVar 0) (tCB (rLenS Z.K) (tCons (tVar 3) tNil)) "size") (r_Binit4 Z E))
def r_Binit6 (Z : Zt) (E : XK) : TS := (tSeq (sFld Z.K (tVar 0) (tThen (tVar 3) (kTup Z.K)) "parties") (r_Binit5 Z E))
def r_Binit7 (Z : Zt) (E : XK) : TS := (tSeq (sFld Z.K (tVar 0) (tVar 1) "strand") (r_Binit6 Z E))
def r_Binit8 (Z : Zt) (E : XK) : TS := (tSeq (tDrop (tCall (Fx Z.CE (S_check_rules Z)) [] E (tCons (tFld Z.K (tVar 1) "kinds") (tCons (tVar 5) tNil)))) (r_Binit7 Z E))
def r_Binit9 (Z : Zt) (E : XK) : TS := (tSeq (tFor (iEnum Z.K (tCons (tVar 3) tNil)) (gTup Z.K 2 (gCons (gName 6) (gCons (gName 7) gNil))) (r_Binit2 Z E)) (r_Binit8 Z E))
def r_Binit10 (Z : Zt) (E : XK) : TS := (tSeq (tAsg (tOp rRep (tLst (tCons (tC (.int 0)) tNil)) (tFld Z.K (tVar 1) "size")) (gName 5)) (r_Binit9 Z E))
def r_Binit11 (Z : Zt) (E : XK) : TS := (tSeq (tIfS (tOr (tTest (tOp (rInD Z.K) (tTup tNil) (tVar 3))) (tTest (tOp (rNeD Z.K) (tVar 4) (tLstRg (tRg1 (tFld Z.K (tVar 1) "size")))))) (tRaiseBad Z.CE (fun cls d _ H => E cls d H) (tCons (tC (.int 0)) (tCons (tTup tNil) tNil))) tNext) (r_Binit10 Z E))
def r_Binit12 (Z : Zt) (E : XK) : TS := (tSeq (tAsg (tCB (rSrt Z.K) (tCons (tLc2 (iList Z.K (tVar 3)) (gName 7) tYes (iTup Z.K (tVar 7)) (gName 8) tYes (tVar 8) [7, 8] [8]) tNil)) (gName 4)) (r_Binit11 Z E))
def r_Binit (Z : Zt) (E : XK) : TS := (tSeq (tAsg (tCB (rSrt Z.K) (tCons (tLc (iList Z.K (tVar 2)) (gName 9) tYes (tThen (tCB (rSrt Z.K) (tCons (tVar 9) tNil)) (kTup Z.K)) [9]) tNil)) (gName 3)) (r_Binit12 Z E))


theorem alike_ns (l : List Nat) : PySem.W.AllAlike (l.map dN) := PySem.W.AllAlike.of fun a b => by simp [PySem.W.alike]
theorem sortable_ns (l : List Nat) : PySem.W.Sortable (l.map dN) := PySem.W.Sortable.others (enc := dN) fun a => ⟨fun z => (by cases z), fun xs z => (by cases z)⟩
theorem depth_ns (l : List Nat) : ∀ d ∈ l.map dN, d.depth ≤ 2 := fun d hd => by
  obtain ⟨a, _, rfl⟩ := List.mem_map.mp hd
  simp [PyData.depth]
theorem le_ns (a b : Nat) : PySem.W.dataLe false id (dN a) (dN b) = decide (a ≤ b) := by
  have h := congrFun (congrFun (PySem.W.dataLe_int (β := Nat) (fun n : Nat => (n : Int))) a) b
  have h2 : PySem.W.dataLe false id (dN a) (dN b) = PySem.W.dataLe false (fun b : Nat => PyData.int (b : Int)) a b := rfl
  rw [h2, h]
  simp
theorem srt_ns (l : List Nat) : (l.map dN).mergeSort (PySem.W.dataLe false id) = (l.mergeSort fun a b => decide (a ≤ b)).map dN :=
  (List.map_mergeSort (r := fun a b => decide (a ≤ b)) (s := PySem.W.dataLe false id) (f := dN) (l := l) (fun a _ b _ => (le_ns a b).symm)).symm
theorem srt_id {l : List Nat} (h : l.Pairwise (· ≤ ·)) : l.mergeSort (fun a b => decide (a ≤ b)) = l := List.mergeSort_of_pairwise (h.imp fun h => decide_eq_true h)
theorem srt_range {l : List Nat} {n : Nat} (h : l.Perm (List.range n)) : l.mergeSort (fun a b => decide (a ≤ b)) = List.range n := by
  have h1 : (l.mergeSort fun a b => decide (a ≤ b)).Pairwise (· ≤ ·) := (List.pairwise_mergeSort (le := fun a b => decide (a ≤ b)) (fun a b c h1 h2 => by simp at h1 h2 ⊢; omega) (fun a b => by simp; omega) l).imp fun h => of_decide_eq_true h
  have h2 : (List.range n).Pairwise (· ≤ ·) := List.pairwise_lt_range.imp fun h => Nat.le_of_lt h
  exact ((List.mergeSort_perm l _).trans h).eq_of_pairwise (fun a b _ _ h1 h2 => Nat.le_antisymm h1 h2) h1 h2
theorem alike_rs (rows : List (List Nat)) : PySem.W.AllAlike (rows.map tNs) := PySem.W.AllAlike.of fun a b => by
  have h := PySem.W.alike_ints (a.map fun n : Nat => (n : Int)) (b.map fun n : Nat => (n : Int))
  rw [List.map_map, List.map_map] at h
  simp only [PySem.W.alike]
  exact h
theorem sortable_rs {rows : List (List Nat)} (h : ∀ r ∈ rows, r ≠ []) : PySem.W.Sortable (rows.map tNs) := .inl fun d hd => by
  obtain ⟨r, hr, rfl⟩ := List.mem_map.mp hd
  cases r with
  | nil => exact absurd rfl (h _ hr)
  | cons x r => exact ⟨dN x, r.map dN, rfl⟩
theorem depth_rs (rows : List (List Nat)) : ∀ d ∈ rows.map tNs, d.depth ≤ 2 := fun d hd => by
  obtain ⟨r, _, rfl⟩ := List.mem_map.mp hd
  simp only [PyData.depth]
  have := ns_depth r
  omega
theorem le_rs (a b : List Nat) : PySem.W.dataLe false id (tNs a) (tNs b) = decide ((a.map fun n : Nat => (n : Int)) ≤ (b.map fun n : Nat => (n : Int))) := by
  have h := congrFun (congrFun (PySem.W.dataLe_rows (β := List Nat) (fun l => l.map fun n : Nat => (n : Int))) a) b
  have h2 : PySem.W.dataLe false id (tNs a) (tNs b) = PySem.W.dataLe false (fun b : List Nat => PyData.list ((b.map fun n : Nat => (n : Int)).map .int)) a b := by
    show PySem.W.dataLe false id (tNs a) (tNs b) = PySem.W.dataLe false id (PyData.list ((a.map fun n : Nat => (n : Int)).map .int)) (PyData.list ((b.map fun n : Nat => (n : Int)).map .int))
    rw [List.map_map, List.map_map]
    rfl
  rw [h2, h]
theorem srt_rs {rows : List (List Nat)} (hne : ∀ r ∈ rows, r ≠ []) (h : rows.Pairwise fun r r' => r.headD 0 < r'.headD 0) : (rows.map tNs).mergeSort (PySem.W.dataLe false id) = rows.map tNs := by
  refine List.mergeSort_of_pairwise ?_
  rw [List.pairwise_map]
  refine h.imp_of_mem ?_
  intro a b ha hb hab
  rw [le_rs]
  refine decide_eq_true ?_
  cases a with
  | nil => exact absurd rfl (hne _ ha)
  | cons x a =>
    cases b with
    | nil => exact absurd rfl (hne _ hb)
    | cons y b =>
      have hxy : x < y := hab
      rw [List.map_cons, List.map_cons, List.cons_le_cons_iff]
      exact .inl (by omega)
def S_Binit (Z : Zt) (Rs : List Pr) (ok : Prop) (fr : List (Str × Pr)) : Prop := ∃ (ks : List Int) (rows : List (List Nat)) (enc : List Nat → PyData), (enc = tNs ∨ enc = dNs) ∧ ks.length ≤ 1000 ∧ RowsOk ks.length rows ∧ Rs = [PStrand Z ks, D (.list (rows.map enc))] ∧
  ok = RulesP ks (ixOf ks.length rows) ∧ fr = frB Z ks rows (ixOf ks.length rows)
theorem S_Binit_len (Z : Zt) (Rs : List Pr) (ok : Prop) (fr : List (Str × Pr)) (h : S_Binit Z Rs ok fr) : Rs.length + 1 = 3 := by
  obtain ⟨_, _, _, _, _, _, rfl, _⟩ := h
  rfl
theorem pure_Binit {Z : Zt} (tc : Tc Z) {vs : List V} {H : Hp} {Q : VK} {E : XK} (h : Fi Z.CB Z.CE (S_Binit Z) vs H Q E) : r_Binit Z E { nx := fun _ H' => Q .non H', rt := Q } (L2.start N_Binit vs) H := by
  obtain ⟨x, dx, us, Rs, ok, fr, F, H1, rfl, hx, hx1, ⟨ks, rows, enc, henc, hn, ro, rfl, rfl, rfl⟩, e, e1, a, q, xq⟩ := h
  have nB : ∀ f ∈ (["strand", "parties", "size", "lone", "_index_of"] : List Str), NoAttr Z.K Z.CB f := tc.nB
  have nS : ∀ f ∈ (["kinds", "size", "unlike_pairs", "ends_unlike", "variety"] : List Str), NoAttr Z.K Z.CS f := tc.nS
  have hkinds : ∀ env : List Sl, env[1]? = some (.has (PStrand Z ks)) → EvR (tFld Z.K (tVar 1) "kinds") env (D (.tuple (ks.map dI))) := fun env h => evr_fld (evr_var h) (by rfl) tc.clS (nS _ (by decide))
  have hsize : ∀ env : List Sl, env[1]? = some (.has (PStrand Z ks)) → EvR (tFld Z.K (tVar 1) "size") env (D (dN ks.length)) := fun env h => evr_fld (evr_var h) (by rfl) tc.clS (nS _ (by decide))
  have hfl : rows.flatten.length = ks.length := by rw [ro.flat.length_eq, List.length_range]
  refine se_bodyI (N := N_Binit) (n := 9) rfl hx hx1 e e1 a q ?_
  show SE F H1 _ [.ins x Z.CB [], .has (PStrand Z ks), .has (D (.list (rows.map enc))), .no, .no, .no, .no, .no, .no, .no] _
  unfold r_Binit
  have hrow : ∀ r ∈ rows, (r.map dN).mergeSort (PySem.W.dataLe false id) = r.map dN := fun r hr => by rw [srt_ns, srt_id (ro.srt r hr)]
  refine sq_asg (R := D (.list (rows.map tNs))) ?_ ?_
  · have e2 := evn_srt (K := Z.K) (ds := rows.map tNs) (.inl (EvN.r (evn_lcLy (K := Z.K) (j := 9) (te := tThen (tCB (rSrt Z.K) (tCons (tVar 9) tNil)) (kTup Z.K)) (tl := tVar 2) (env := [.ins x Z.CB [], .has (PStrand Z ks), .has (D (.list (rows.map enc))), .no, .no, .no, .no, .no, .no, .no]) enc tNs (xs := rows) (evr_var rfl) (by have := ro.len; omega) fun r hr => ?_))) (alike_rs rows) (sortable_rs ro.ne) (depth_rs rows)
    · rw [srt_rs ro.ne ro.heads] at e2
      exact EvN.r e2
    · refine evr_is (evr_tupleL (EvN.r (evn_srt (ds := r.map dN) ?_ (alike_ns r) (sortable_ns r) (depth_ns r)))) (by rw [hrow r hr])
      rcases henc with rfl | rfl
      · exact .inr (evr_var rfl)
      · exact .inl (evr_var rfl)
  unfold r_Binit12
  refine sq_asg (R := D (dNs (List.range ks.length))) ?_ ?_
  · have em : rows.map tNs = (rows.map fun r : List Nat => r.map dN).map PyData.tuple := by rw [List.map_map]; rfl
    have ef : (rows.map fun r : List Nat => r.map dN).flatten = rows.flatten.map dN := by rw [List.map_flatten]
    have e2 := evn_srt (K := Z.K) (ds := rows.flatten.map dN) (.inl (EvN.r (ef ▸ evn_lc2 (K := Z.K) (j := 7) (j1 := 8) (tl := tVar 3) (env := [.ins x Z.CB [], .has (PStrand Z ks), .has (D (.list (rows.map enc))), .has (D (.list (rows.map tNs))), .no, .no, .no, .no, .no, .no]) (rows := rows.map fun r : List Nat => r.map dN) (by decide) (show 7 < 10 by decide) (show 8 < 10 by decide) (em ▸ evr_var rfl) (by rw [ef, List.length_map]; omega)))) (alike_ns _) (sortable_ns _) (depth_ns _)
    rw [srt_ns, srt_range ro.flat] at e2
    exact EvN.r e2
  unfold r_Binit11
  refine sq_ifx (b := false) (evt_is (evt_or (b := false) (c := false) (evt_is (evt_of (evr_inD (d := .tuple []) (ds := rows.map tNs) (evr_tup (ds := []) eva_nil (by decide)) (evr_var rfl) (by decide) (shaped_rs rows))) ?_) fun _ => evt_is (evt_of (evr_neD (d := dNs (List.range ks.length)) (e' := dNs (List.range ks.length)) (evr_var rfl) (EvN.r (evn_range1 (n := ks.length) (hsize _ rfl) (by omega))) (shaped_ns _) (shaped_ns _))) ?_) rfl) (fun z => by cases z) fun _ => ?_
  · rw [Bool.eq_false_iff]
    intro z
    obtain ⟨d, hd, hz⟩ := List.any_eq_true.mp z
    obtain ⟨r, hr, rfl⟩ := List.mem_map.mp hd
    cases r with
    | nil => exact ro.ne _ hr rfl
    | cons y r => simp [PyData.eqv, PyData.eqvAll] at hz
  · simp only [PyData.eqv]
    rw [eqv_ns]
    simp
  unfold r_Binit10
  refine sq_own (evn_repN (x := 0) (n := ks.length) evr_int (hsize _ rfl) (by omega)) ?_
  unfold r_Binit9
  refine se_seq (fun env => ∃ y z u, env = [.ins x Z.CB [], .has (PStrand Z ks), .has (D (.list (rows.map enc))), .has (D (.list (rows.map tNs))), .has (D (dNs (List.range ks.length))), .own ((ixOf ks.length rows).map dN), y, z, u, .no])
    (se_enum (evr_var rfl) (fun i env => ∃ y z u, env = [.ins x Z.CB [], .has (PStrand Z ks), .has (D (.list (rows.map enc))), .has (D (.list (rows.map tNs))), .has (D (dNs (List.range ks.length))), .own ((ixGo (List.replicate ks.length 0) 0 (rows.take i)).map dN), y, z, u, .no]) ⟨_, _, _, rfl⟩ (fun i d env' hi iv => ?_) fun env' iv => ?_) ?_
  · obtain ⟨y, z, u, rfl⟩ := iv
    rw [List.getElem?_map] at hi
    cases er : rows[i]? with
    | none => rw [er] at hi; cases hi
    | some r =>
    rw [er] at hi
    have ed : tNs r = d := Option.some.inj hi
    subst ed
    have hr := List.mem_of_getElem? er
    have hil := (List.getElem?_eq_some_iff.mp er).1
    have hlen : (rows.take i).length = i := by rw [List.length_take]; omega
    rw [take_succ' er, ixGo_snoc, hlen, Nat.zero_add]
    have hgl : (ixGo (List.replicate ks.length 0) 0 (rows.take i)).length = ks.length := by rw [ixGo_len, List.length_replicate]
    generalize ixGo (List.replicate ks.length 0) 0 (rows.take i) = ix at hgl
    unfold r_Binit2
    refine se_forTM dN (xs := r) (evr_var rfl) (fun k env => ∃ u, env = [.ins x Z.CB [], .has (PStrand Z ks), .has (D (.list (rows.map enc))), .has (D (.list (rows.map tNs))), .has (D (dNs (List.range ks.length))), .own ((ixRow ix i (r.take k)).map dN), .has (D (.int (i : Int))), .has (D (tNs r)), u, .no]) ⟨_, rfl⟩ (fun k b env' hk iv => ?_) fun env' iv => ?_
    · obtain ⟨u, rfl⟩ := iv
      have hb := ro.lt r hr b (List.mem_of_getElem? hk)
      rw [take_succ' hk, ixRow_snoc]
      have hrl : (ixRow ix i (r.take k)).length = ks.length := by rw [ixRow_len, hgl]
      generalize ixRow ix i (r.take k) = ix2 at hrl
      unfold r_Binit1
      refine se_setL (d := dN i) (k := b) rfl (evr_var rfl) (evr_var rfl) (by rw [List.length_map]; omega) ?_
      have em : (ix2.set b i).map dN = (ix2.map dN).set b (dN i) := by rw [List.map_set]
      rw [em]
      exact ⟨_, rfl⟩
    · obtain ⟨u, rfl⟩ := iv
      rw [List.take_length]
      exact ⟨_, _, _, rfl⟩
  · obtain ⟨y, z, u, rfl⟩ := iv
    rw [List.length_map, List.take_length]
    exact ⟨_, _, _, rfl⟩
  rintro _ ⟨y, z, u, rfl⟩
  have hix : (ixOf ks.length rows).length = ks.length := ixOf_len
  generalize ixOf ks.length rows = ix at hix q xq
  refine se_freeze 5 rfl ?_
  unfold r_Binit8
  refine se_seq (fun env => RulesP ks ix ∧ env = [.ins x Z.CB [], .has (PStrand Z ks), .has (D (.list (rows.map enc))), .has (D (.list (rows.map tNs))), .has (D (dNs (List.range ks.length))), .has (D (dNs ix)), y, z, u, .no])
    (se_dropX (Rs := [D (.tuple (ks.map dI)), D (dNs ix)]) (ok := RulesP ks ix) (eva_cons (hkinds _ rfl) (eva_cons (evr_var rfl) eva_nil)) ⟨ks, ix, hix.symm, hn, rfl, rfl, rfl⟩ xq fun k => ⟨k, rfl⟩) ?_
  rintro _ ⟨rok, rfl⟩
  unfold r_Binit7
  refine sq_fld rfl (evr_var rfl) tc.clB (nB _ (by decide)) (by simp) (by rfl) ?_
  unfold r_Binit6
  refine sq_fld rfl (evr_tupleL (evr_var rfl)) tc.clB (nB _ (by decide)) (by simp) (by rfl) ?_
  unfold r_Binit5
  refine sq_fld rfl (evr_lenM (enc := tNs) (evr_var rfl)) tc.clB (nB _ (by decide)) (by simp) (by rfl) ?_
  unfold r_Binit4
  refine sq_fld (R := PZ) rfl (pz_in (evr_lenL (EvN.r (evn_lcL tNs (fun r => r.length == 1) tNs (xs := rows) (evr_var rfl) (by have := ro.len; omega) (fun r hr => evt_eqN (n := 1) (evr_lenTM (enc := dN) (evr_var rfl)) evr_int) fun r hr _ => evr_var rfl)))) tc.clB (nB _ (by decide)) (by simp) (by rfl) ?_
  unfold r_Binit3
  exact se_fld rfl (evr_tupleL (evr_var rfl)) tc.clB (nB _ (by decide)) (by simp) (by rfl) ⟨rok, _, rfl⟩

def L_Binit : Nat := 3
abbrev P_Binit : List Str := ["self", "strand", "parties"]
theorem cal_Binit {P : Program} {w : World} {Z : Zt} {mg : Str → Option Value} {base : Heap} {f : Addr} {fd : FuncData} (F : Fun Z.K "__init__" "Book.__init__" st_Binit f fd) (T : Tx0 mg) (C_check_rules : Calx P w Z.K mg base "check_rules" L_check_rules P_check_rules (Fx Z.CE (S_check_rules Z))) (tc : Tc Z) {fI : Addr} (B : PySem.BadX.BadTxt P Z.K mg Z.CE fI) (gC : mg "Book" = some (.ref Z.CB)) (M : Mk Z.K Z.CB f) : Cali (L2.CX P w) P w Z.K mg base "Book" Z.CB L_Binit P_Binit (Fi Z.CB Z.CE (S_Binit Z)) := by
  refine ⟨f, fd, gC, M, F.binds fun _ _ _ _ _ _ us hl => match us, hl with | [_, _, _], _ => rfl, F.okX sc_Binit (fun vs H Q E h => Fi.len (C := Z.CB) (CE := Z.CE) (S := S_Binit Z) (n := 3) (S_Binit_len Z) h) (fun cdv A outer s H vs Q E hr h => ⟨r_Binit Z E, ?_, pure_Binit tc h⟩)⟩
  have hu := hr.units
  have hu65 := room65 hr
  have hu64 := room64 hr
  exact (pss_cons (ps_set (i := 3) sc_Binit.nd rfl (Or.inl rfl) (pe_callB (cr_srt hu64) (by rfl) T.sorted (by decide +kernel) (pa_cons (pe_lc (own := [("party", 9)]) (g := gName 9) (tt := tYes) rfl sc_Binit.nd (pi_list (pv 2)) (blkOk_by (own := [("party", 9)]) (N := N_Binit) (sc := defScope st_Binit) (by decide +kernel)) (fun _ _ _ _ _ => pg_name (i := 9) sc_Binit.nd rfl (Or.inl rfl)) (fun _ _ _ _ _ => pts_nil) (fun _ _ _ _ _ => (pe_tupleOf rfl T.tuple (pe_callB (cr_srt hu64) (by rfl) T.sorted (by decide +kernel) (pa_cons (pv 9) pa_nil))))) pa_nil))) (pss_cons (ps_set (i := 4) sc_Binit.nd rfl (Or.inl rfl) (pe_callB (cr_srt hu64) (by rfl) T.sorted (by decide +kernel) (pa_cons (pe_lc2 (own := [("row", 7), ("bead", 8)]) (vs1 := [8]) (g := gName 7) (g1 := gName 8) (tt := tYes) (tt1 := tYes) rfl sc_Binit.nd (pi_list (pv 3)) (blkOk_by (own := [("row", 7), ("bead", 8)]) (N := N_Binit) (sc := defScope st_Binit) (by decide +kernel)) (by decide) (fun _ _ _ _ _ => pg_name (i := 7) sc_Binit.nd rfl (Or.inl rfl)) (fun _ _ _ _ _ => pts_nil) (fun _ _ _ _ _ => (pi_tup (pv 7))) (fun _ _ _ _ _ => pg_name (i := 8) sc_Binit.nd rfl (Or.inl rfl)) (fun _ _ _ _ _ => pts_nil) (fun _ _ _ _ _ => (pv 8))) pa_nil))) (pss_cons (ps_if (PW.pt (pw_or (pt_cmpR (op_inD hu65) (pe_tup pa_nil) (pv 3) (by rfl)) (pw_or1 (pt_cmpR (op_neD hu) (pv 4) (pe_listRg rfl rfl T.list (prg_1 rfl T.range (pe_fld (pv 1) rfl))) (nomark _))))) (pss_one (ps_raiseBad rfl B (hr.mono (by decide : 0 ≤ _)) (takes_of rfl rfl rfl rfl) (pa_cons pe_int (pa_cons (pe_tup pa_nil) pa_nil)))) pss_nil) (pss_cons (ps_set (i := 5) sc_Binit.nd rfl (Or.inl rfl) (pe_op op_rep (pe_lst (pa_cons pe_int pa_nil)) (pe_fld (pv 1) rfl))) (pss_cons (ps_for (passes_of rfl) rfl (pi_enum rfl T.enumerate (pa_cons (pv 3) pa_nil)) (pg_tup rfl (pgs_cons (pg_name (i := 6) sc_Binit.nd rfl (Or.inl rfl)) (pgs_cons (pg_name (i := 7) sc_Binit.nd rfl (Or.inl rfl)) pgs_nil))) (pss_one (ps_for (passes_of rfl) rfl (pi_tup (pv 7)) (pg_name (i := 8) sc_Binit.nd rfl (Or.inl rfl)) (pss_one (ps_asg (pv 6) (pg_sub (pv 5) (pv 8) set_list)))))) (pss_cons (ps_expr (pe_calx C_check_rules (takes_of rfl rfl rfl rfl) (hr.mono (by decide)) (pa_cons (pe_fld (pv 1) rfl) (pa_cons (pv 5) pa_nil)))) (pss_cons (ps_fld (pv 0) (pv 1) rfl) (pss_cons (ps_fld (pv 0) (pe_tupleOf rfl T.tuple (pv 3)) rfl) (pss_cons (ps_fld (pv 0) (pe_callB call_len_seq (by rfl) T.len PySem.boot_len (pa_cons (pv 3) pa_nil)) rfl) (pss_cons (ps_fld (pv 0) (pe_callB call_len_seq (by rfl) T.len PySem.boot_len (pa_cons (pe_lc (own := [("row", 7)]) (g := gName 7) (tt := (tTest (tOp rEq (tCB (rLenS Z.K) (tCons (tVar 7) tNil)) (tC (.int 1))))) rfl sc_Binit.nd (pi_list (pv 3)) (blkOk_by (own := [("row", 7)]) (N := N_Binit) (sc := defScope st_Binit) (by decide +kernel)) (fun _ _ _ _ _ => pg_name (i := 7) sc_Binit.nd rfl (Or.inl rfl)) (fun _ _ _ _ _ => (pts_one (pt_cmpR op_eq (pe_callB call_len_seq (by rfl) T.len PySem.boot_len (pa_cons (pv 7) pa_nil)) pe_int (nomark _)))) (fun _ _ _ _ _ => (pv 7))) pa_nil)) rfl) (pss_one (ps_fld (pv 0) (pe_tupleOf rfl T.tuple (pv 5)) rfl))))))))))))


end Bm

/-! text BmD13 -/
set_option Elab.async false
set_option linter.all false
set_option maxRecDepth 100000
set_option maxHeartbeats 4000000
namespace Bm
open PySem PySem.Spec PyProof.Rows L2 Fz ClX PpSet
/-! ### Book.party_of -/
abbrev st_Bparty_of : Stmt := inClass (topS 16) 3
abbrev N_Bparty_of : List Str := ["self", "bead"]
theorem sc_Bparty_of : FnScope N_Bparty_of ["self", "bead"] (defScope st_Bparty_of) := ⟨rfl, rfl, rfl, by decide +kernel, rfl, by decide +kernel, by decide +kernel⟩
def r_Bparty_of1 (Z : Zt) : TS := (tRet (tOp (rIxT Z.K) (tFld Z.K (tVar 0) "_index_of") (tVar 1)))
def r_Bparty_of (Z : Zt) : TS := (tSeq (tIfS (tNot (tTest (tChain xLe xLt (tC (.int 0)) (tVar 1) (tCB (rLenS Z.K) (tCons (tFld Z.K (tVar 0) "_index_of") tNil))))) tNever tNext) (r_Bparty_of1 Z))


def S_Bparty_of (Z : Zt) (Rs : List Pr) (R : Pr) : Prop := ∃ (ks : List Int) (rows : List (List Nat)) (ix : List Nat) (k x : Nat), ix[k]? = some x ∧ Rs = [PBook Z ks rows ix, D (dN k)] ∧ R = D (dN x)
theorem S_Bparty_of_len (Z : Zt) (Rs : List Pr) (R : Pr) (h : S_Bparty_of Z Rs R) : Rs.length = 2 := by
  obtain ⟨_, _, _, _, _, _, rfl, _⟩ := h
  rfl
theorem pure_Bparty_of {Z : Zt} (tc : Tc Z) {vs : List V} {H : Hp} {Q : VK} {E : XK} (h : Fs (S_Bparty_of Z) vs H Q E) : r_Bparty_of Z { nx := fun _ H' => Q .non H', rt := Q } (L2.start N_Bparty_of vs) H := by
  obtain ⟨Rs, R, F, ⟨ks, rows, ix, k, x, hx, rfl, rfl⟩, e, a, q⟩ := h
  refine se_body (N := N_Bparty_of) (n := 2) rfl e a q ?_
  show SE F H _ [.has (PBook Z ks rows ix), .has (D (dN k))] _
  have hk : k < ix.length := (List.getElem?_eq_some_iff.mp hx).1
  have hix : ∀ env : List Sl, env[0]? = some (.has (PBook Z ks rows ix)) → EvR (tFld Z.K (tVar 0) "_index_of") env (D (tNs ix)) := fun env h => evr_fld (evr_var h) (by rfl) tc.clB (tc.nB _ (by decide))
  unfold r_Bparty_of
  refine sq_ifx (b := !(decide ((0 : Int) ≤ (k : Int)) && decide ((k : Int) < (ix.length : Int)))) (evt_not (evt_chain evr_int (evr_var rfl) (evr_lenTM (hix _ rfl)))) (fun z => ?_) fun _ => ?_
  · have e1 : (decide ((0 : Int) ≤ (k : Int)) && decide ((k : Int) < (ix.length : Int))) = true := by
      rw [Bool.and_eq_true, decide_eq_true_eq, decide_eq_true_eq]
      omega
    rw [e1] at z
    cases z
  · unfold r_Bparty_of1
    exact se_ret (evr_ixTN (hix _ rfl) (evr_var rfl) hx)

def L_Bparty_of : Nat := 1
abbrev P_Bparty_of : List Str := ["self", "bead"]
theorem cal_Bparty_of {P : Program} {w : World} {Z : Zt} {mg : Str → Option Value} {base : Heap} {f : Addr} {fd : FuncData} (F : Fun Z.K "party_of" "Book.party_of" st_Bparty_of f fd) (T : Tx0 mg) (tc : Tc Z) (M : Meth Z.K Z.CB "party_of" f) : Calm P w Z.K mg base Z.CB "party_of" L_Bparty_of P_Bparty_of (Fs (S_Bparty_of Z)) := by
  refine ⟨f, fd, M, F.binds fun _ _ _ _ _ _ us hl => match us, hl with | [_, _], _ => rfl, F.ok sc_Bparty_of (fun vs H Q E h => Fs.len (S := S_Bparty_of Z) (n := 2) (S_Bparty_of_len Z) h) (fun cdv A outer s H vs Q E hr h => ⟨r_Bparty_of Z, PSs.nox ?_, pure_Bparty_of tc h⟩)⟩
  have hu := hr.units
  have hu65 := room65 hr
  have hu64 := room64 hr
  exact (pss_cons (ps_if (pt_not (pt_chain op_le op_lt pe_int (pv 1) (pe_callB call_len_seq (by rfl) T.len PySem.boot_len (pa_cons (pe_fld (pv 0) rfl) pa_nil)))) (pss_one ps_never) pss_nil) (pss_one (ps_ret (pe_ix ix_tup (pe_fld (pv 0) rfl) (pv 1) (fun _ _ => rfl)))))


/-! ### Strand.__init__ -/
abbrev st_Sinit : Stmt := inClass (topS 18) 2
abbrev N_Sinit : List Str := ["self", "kinds", "size", "bead"]
theorem sc_Sinit : FnScope N_Sinit ["self", "kinds"] (defScope st_Sinit) := ⟨rfl, rfl, rfl, by decide +kernel, rfl, by decide +kernel, by decide +kernel⟩
def r_Sinit1 (Z : Zt) : TS := (tIfS (tOr (tTest (tOp xLt (tOp (rIxT Z.K) (tVar 1) (tVar 3)) (tC (.int 0)))) (tTest (tOp xGt (tOp (rIxT Z.K) (tVar 1) (tVar 3)) (tCVal Z.K (tC (.ref Z.CS)) "TOP_KIND")))) tNever tNext)
def r_Sinit2 (Z : Zt) : TS := (sFld Z.K (tVar 0) (tLenSetI Z.K (tVar 1)) "variety")
def r_Sinit3 (Z : Zt) : TS := (tSeq (sFld Z.K (tVar 0) (tCB xInt1 (tCons (tOp rNe (tOp (rIxT Z.K) (tVar 1) (tC (.int 0))) (tOp (rIxT Z.K) (tVar 1) (tUn xNeg (tC (.int 1))))) tNil)) "ends_unlike") (r_Sinit2 Z))
def r_Sinit4 (Z : Zt) : TS := (tSeq (sFld Z.K (tVar 0) (tCB (rLenS Z.K) (tCons (tLc (iRng1 (tCons (tVar 2) tNil)) (gName 3) (tTest (tOp rNe (tOp (rIxT Z.K) (tVar 1) (tVar 3)) (tOp (rIxT Z.K) (tVar 1) (tOp xSub (tVar 3) (tC (.int 1)))))) (tVar 3) [3]) tNil)) "unlike_pairs") (r_Sinit3 Z))
def r_Sinit5 (Z : Zt) : TS := (tSeq (sFld Z.K (tVar 0) (tVar 2) "size") (r_Sinit4 Z))
def r_Sinit6 (Z : Zt) : TS := (tSeq (sFld Z.K (tVar 0) (tVar 1) "kinds") (r_Sinit5 Z))
def r_Sinit7 (Z : Zt) : TS := (tSeq (tFor (iRng1 (tCons (tVar 2) tNil)) (gName 3) (r_Sinit1 Z)) (r_Sinit6 Z))
def r_Sinit8 (Z : Zt) : TS := (tSeq (tIfS (tOr (tTest (tOp xLt (tVar 2) (tC (.int 2)))) (tTest (tOp xGt (tVar 2) (tCVal Z.K (tC (.ref Z.CS)) "MOST")))) tNever tNext) (r_Sinit7 Z))
def r_Sinit9 (Z : Zt) : TS := (tSeq (tAsg (tCB (rLenS Z.K) (tCons (tVar 1) tNil)) (gName 2)) (r_Sinit8 Z))
def r_Sinit (Z : Zt) : TS := (tSeq (tAsg (tThen (tVar 1) (kTup Z.K)) (gName 1)) (r_Sinit9 Z))


def S_Sinit (_ : Zt) (Rs : List Pr) (ok : Prop) (fr : List (Str × Pr)) : Prop := ∃ ks : List Int, 2 ≤ ks.length ∧ ks.length ≤ 24 ∧ (∀ x ∈ ks, 0 ≤ x ∧ x ≤ 999) ∧ Rs = [D (dIs ks)] ∧ ok = True ∧
  fr = frS ks
theorem S_Sinit_len (Z : Zt) (Rs : List Pr) (ok : Prop) (fr : List (Str × Pr)) (h : S_Sinit Z Rs ok fr) : Rs.length + 1 = 2 := by
  obtain ⟨_, _, _, _, rfl, _⟩ := h
  rfl
theorem pure_Sinit {Z : Zt} (tc : Tc Z) {vs : List V} {H : Hp} {Q : VK} {E : XK} (h : Fi Z.CS Z.CE (S_Sinit Z) vs H Q E) : r_Sinit Z { nx := fun _ H' => Q .non H', rt := Q } (L2.start N_Sinit vs) H := by
  obtain ⟨x, dx, us, Rs, ok, fr, F, H1, rfl, hx, hx1, ⟨ks, h2, h24, hb, rfl, rfl, rfl⟩, e, e1, a, q, _⟩ := h
  obtain ⟨mc, cr, ⟨u1, most⟩, u2, topk⟩ := tc.mS
  have nS : ∀ f ∈ (["kinds", "size", "unlike_pairs", "ends_unlike", "variety"] : List Str), NoAttr Z.K Z.CS f := tc.nS
  refine se_bodyI (N := N_Sinit) (n := 3) rfl hx hx1 e e1 a q ?_
  show SE F H1 _ [.ins x Z.CS [], .has (D (dIs ks)), .no, .no] _
  unfold r_Sinit
  refine sq_asg (R := D (.tuple (ks.map dI))) (evr_tupleL (evr_var rfl)) ?_
  unfold r_Sinit9
  refine sq_asg (R := D (dN ks.length)) (evr_lenTM (evr_var rfl)) ?_
  unfold r_Sinit8
  refine sq_ifx (b := decide ((ks.length : Int) < 2) || decide ((24 : Int) < (ks.length : Int))) (evt_or (evt_lt (evr_var rfl) evr_int) fun _ => evt_gt (evr_var rfl) (evr_cval cr most fun _ => .int _)) (fun z => ?_) fun _ => ?_
  · simp only [Bool.or_eq_true, decide_eq_true_eq] at z
    omega
  unfold r_Sinit7
  refine se_seq (fun env => ∃ y, env = [.ins x Z.CS [], .has (D (.tuple (ks.map dI))), .has (D (dN ks.length)), y])
    (se_forR1 (n := ks.length) (evr_var rfl) (by omega) (fun i env => ∃ y, env = [.ins x Z.CS [], .has (D (.tuple (ks.map dI))), .has (D (dN ks.length)), y]) ⟨_, rfl⟩ (fun i env' hi iv => ?_) fun env' iv => iv) ?_
  · obtain ⟨y, rfl⟩ := iv
    have hki : ks[i]? = some (ks.getD i 0) := getI hi
    have hbi := hb _ (List.mem_of_getElem? hki)
    unfold r_Sinit1
    refine se_if (b := decide (ks.getD i 0 < 0) || decide (999 < ks.getD i 0)) (evt_or (evt_lt (evr_ixTI (i := i) (evr_var rfl) (evr_var rfl) hki) evr_int) fun _ => evt_gt (evr_ixTI (i := i) (evr_var rfl) (evr_var rfl) hki) (evr_cval cr topk fun _ => .int _)) (fun z => ?_) fun _ => se_next ⟨_, rfl⟩
    simp only [Bool.or_eq_true, decide_eq_true_eq] at z
    omega
  rintro _ ⟨y, rfl⟩
  unfold r_Sinit6
  refine sq_fld rfl (evr_var rfl) tc.clS (nS _ (by decide)) (by simp) (by rfl) ?_
  unfold r_Sinit5
  refine sq_fld rfl (evr_var rfl) tc.clS (nS _ (by decide)) (by simp) (by rfl) ?_
  unfold r_Sinit4
  have hat : ∀ (b : Nat), b < ks.length → ∃ z, atI (ks.map dI) ((b : Int) - 1) = some (dI z) := fun b hb => by
    by_cases h0 : b = 0
    · subst h0
      exact ⟨ks.getD (ks.length - 1) 0, at_last (xs := ks.map dI) (by rw [List.length_map, List.getElem?_map, getI (by omega)]; rfl)⟩
    · exact ⟨ks.getD (b - 1) 0, by rw [show (b : Int) - 1 = ((b - 1 : Nat) : Int) by omega]; exact at_map (enc := dI) (getI (by omega))⟩
  have hun : ∃ ds, EvN (tLc (iRng1 (tCons (tVar 2) tNil)) (gName 3) (tTest (tOp rNe (tOp (rIxT Z.K) (tVar 1) (tVar 3)) (tOp (rIxT Z.K) (tVar 1) (tOp xSub (tVar 3) (tC (.int 1)))))) (tVar 3) [3])
      [.ins x Z.CS (([] : List (Str × Pr)) ++ [(("kinds" : Str), D (.tuple (ks.map dI)))] ++ [(("size" : Str), D (dN ks.length))]), .has (D (.tuple (ks.map dI))), .has (D (dN ks.length)), y] ds := by
    refine ⟨_, evn_lcR1 (n := ks.length) (fun b => if hb : b < ks.length then !(ks.getD b 0 == Classical.choose (hat b hb)) else false) dN (evr_var rfl) (by omega) (fun b hb => ?_) fun b hb _ => evr_var rfl⟩
    rw [dif_pos hb]
    exact evt_neI (evr_ixTI (i := b) (evr_var rfl) (evr_var rfl) (getI hb)) (evr_ixT (evr_var rfl) (evr_sub (a := (b : Int)) (b := 1) (evr_var rfl) evr_int) (Classical.choose_spec (hat b hb)))
  obtain ⟨ds, hun⟩ := hun
  refine sq_fld (R := PZ) rfl (pz_in (evr_lenL (EvN.r hun))) tc.clS (nS _ (by decide)) (by simp) (by rfl) ?_
  unfold r_Sinit3
  refine sq_fld (R := PZ) rfl (pz_in (evr_intB (evr_neI (evr_ixTI (i := 0) (evr_var rfl) evr_int (getI (by omega))) (evr_ixT (evr_var rfl) (evr_neg evr_int) (at_last (x := dI (ks.getD (ks.length - 1) 0)) (by rw [List.length_map, List.getElem?_map, getI (by omega)]; rfl)))))) tc.clS (nS _ (by decide)) (by simp) (by rfl) ?_
  unfold r_Sinit2
  exact se_fld (R := PZ) rfl (evr_lenSet (ns := ks) (evr_var rfl) (by omega)) tc.clS (nS _ (by decide)) (by simp) (by rfl) ⟨True.intro, _, rfl⟩

def L_Sinit : Nat := 1
abbrev P_Sinit : List Str := ["self", "kinds"]
theorem cal_Sinit {P : Program} {w : World} {Z : Zt} {mg : Str → Option Value} {base : Heap} {f : Addr} {fd : FuncData} (F : Fun Z.K "__init__" "Strand.__init__" st_Sinit f fd) (T : Tx0 mg) (tc : Tc Z) (gS : mg "Strand" = some (.ref Z.CS)) (gC : mg "Strand" = some (.ref Z.CS)) (M : Mk Z.K Z.CS f) : Cali CX0 P w Z.K mg base "Strand" Z.CS L_Sinit P_Sinit (Fi Z.CS Z.CE (S_Sinit Z)) := by
  refine ⟨f, fd, gC, M, F.binds fun _ _ _ _ _ _ us hl => match us, hl with | [_, _], _ => rfl, F.ok sc_Sinit (fun vs H Q E h => Fi.len (C := Z.CS) (CE := Z.CE) (S := S_Sinit Z) (n := 2) (S_Sinit_len Z) h) (fun cdv A outer s H vs Q E hr h => ⟨r_Sinit Z, PSs.nox ?_, pure_Sinit tc h⟩)⟩
  have hu := hr.units
  have hu65 := room65 hr
  have hu64 := room64 hr
  exact (pss_cons (ps_set (i := 1) sc_Sinit.nd rfl (Or.inr rfl) (pe_tupleOf rfl T.tuple (pv 1))) (pss_cons (ps_set (i := 2) sc_Sinit.nd rfl (Or.inl rfl) (pe_callB call_len_seq (by rfl) T.len PySem.boot_len (pa_cons (pv 1) pa_nil))) (pss_cons (ps_if (PW.pt (pw_or (pt_cmpR op_lt (pv 2) pe_int (nomark _)) (pw_or1 (pt_cmpR op_gt (pv 2) (pe_cval (pe_glob rfl gS rfl)) (nomark _))))) (pss_one ps_never) pss_nil) (pss_cons (ps_for PassesOwn.never rfl (pi_range1 rfl T.range (pa_cons (pv 2) pa_nil)) (pg_name (i := 3) sc_Sinit.nd rfl (Or.inl rfl)) (pss_one (ps_if (PW.pt (pw_or (pt_cmpR op_lt (pe_ix ix_tup (pv 1) (pv 3) (fun _ _ => rfl)) pe_int (nomark _)) (pw_or1 (pt_cmpR op_gt (pe_ix ix_tup (pv 1) (pv 3) (fun _ _ => rfl)) (pe_cval (pe_glob rfl gS rfl)) (nomark _))))) (pss_one ps_never) pss_nil))) (pss_cons (ps_fld (pv 0) (pv 1) rfl) (pss_cons (ps_fld (pv 0) (pv 2) rfl) (pss_cons (ps_fld (pv 0) (pe_callB call_len_seq (by rfl) T.len PySem.boot_len (pa_cons (pe_lc (own := [("bead", 3)]) (g := gName 3) (tt := (tTest (tOp rNe (tOp (rIxT Z.K) (tVar 1) (tVar 3)) (tOp (rIxT Z.K) (tVar 1) (tOp xSub (tVar 3) (tC (.int 1))))))) rfl sc_Sinit.nd (pi_range1 rfl T.range (pa_cons (pv 2) pa_nil)) (blkOk_by (own := [("bead", 3)]) (N := N_Sinit) (sc := defScope st_Sinit) (by decide +kernel)) (fun _ _ _ _ _ => pg_name (i := 3) sc_Sinit.nd rfl (Or.inl rfl)) (fun _ _ _ _ _ => (pts_one (pt_cmpR op_ne (pe_ix ix_tup (pv 1) (pv 3) (fun _ _ => rfl)) (pe_ix ix_tup (pv 1) (pe_op op_sub (pv 3) pe_int) (fun _ _ => rfl)) (nomark _)))) (fun _ _ _ _ _ => (pv 3))) pa_nil)) rfl) (pss_cons (ps_fld (pv 0) (pe_callTy call_int1 (by rfl) T.int (by decide +kernel) (pa_cons (pe_cmpR op_ne (pe_ix ix_tup (pv 1) pe_int (fun _ _ => rfl)) (pe_ix ix_tup (pv 1) (pe_un un_neg pe_int) (fun _ _ => rfl)) (nomark _)) pa_nil)) rfl) (pss_one (ps_fld (pv 0) (pe_lenSetI rfl rfl T.len rfl T.set (pv 1)) rfl))))))))))


end Bm

/-! text BmD15 -/
set_option Elab.async false
set_option linter.all false
set_option maxRecDepth 100000
set_option maxHeartbeats 4000000
namespace Bm
open PySem PySem.Spec PyProof.Rows L2 Fz ClX PpSet
/-! ### gaps -/
abbrev st_gaps : Stmt := topS 2
abbrev N_gaps : List Str := ["book", "strand", "members", "places", "place", "index", "row"]
theorem sc_gaps : FnScope N_gaps ["book"] (defScope st_gaps) := ⟨rfl, rfl, rfl, by decide +kernel, rfl, by decide +kernel, by decide +kernel⟩
def r_gaps1 (Z : Zt) : TS := (tIfS (tTest (tOp rNe (tOp (rIxT Z.K) (tFld Z.K (tVar 1) "kinds") (tVar 4)) (tOp (rIxT Z.K) (tFld Z.K (tVar 1) "kinds") (tOp xMod (tOp xAdd (tVar 4) (tC (.int 1))) (tFld Z.K (tVar 1) "size"))))) (tDrop (tBM Z.K "list" rAppend (tDSetdT (tVar 3) (tThen (tVar 2) (kTup Z.K)) (tLst tNil)) (tCons (tVar 4) tNil))) tNext)
def r_gaps2 (Z : Zt) : TS := (tSeq (tAsg (tOp xMod (tOp xAdd (tOp (rIxL Z.K) (tVar 2) (tVar 5)) (tC (.int 1))) (tCB (rLenS Z.K) (tCons (tOp (rIxT Z.K) (tFld Z.K (tVar 0) "parties") (tVar 5)) tNil))) (gSub (tVar 2) (tVar 5) rSetL)) (r_gaps1 Z))
def r_gaps3 (Z : Zt) : TS := (tSeq (tAsg (tMeth Z.CB "party_of" (Fs (S_Bparty_of Z)) [] E0 (tVar 0) (tCons (tVar 4) tNil)) (gName 5)) (r_gaps2 Z))
def r_gaps4 (Z : Zt) : TS := (tRet (tLockE (tLc (iValsT (tVar 3)) (gName 6) tYes (tThen (tVar 6) (kTup Z.K)) [6])))
def r_gaps5 (Z : Zt) : TS := (tSeq (tFor (iRng1 (tCons (tFld Z.K (tVar 1) "size") tNil)) (gName 4) (r_gaps3 Z)) (r_gaps4 Z))
def r_gaps6 (Z : Zt) : TS := (tSeq (tAsg tDNewT (gName 3)) (r_gaps5 Z))
def r_gaps7 (Z : Zt) : TS := (tSeq (tAsg (tOp rRep (tLst (tCons (tC (.int 0)) tNil)) (tFld Z.K (tVar 0) "size")) (gName 2)) (r_gaps6 Z))
def r_gaps (Z : Zt) : TS := (tSeq (tAsg (tFld Z.K (tVar 0) "strand") (gName 1)) (r_gaps7 Z))


abbrev nk (n : Nat) : Key := .inl (n : Int)
abbrev nV (n : Nat) : V := .int (n : Int)
abbrev kvOf (t : List Nat × List Nat × Addr) : List Key × V := (t.1.map nk, .ref t.2.2)
theorem nk_inj : ∀ {a b : List Nat}, a.map nk = b.map nk → a = b
  | [], [], _ => rfl
  | [], _ :: _, h => by cases h
  | _ :: _, [], h => by cases h
  | x :: a, y :: b, h => by
    rw [List.map_cons, List.map_cons, List.cons.injEq] at h
    have h1 : (x : Int) = (y : Int) := Sum.inl.inj h.1
    rw [nk_inj h.2, show x = y by omega]
/-- the dict of gaps at ap, its lists -/
structure DicI (H0 F H : Hp) (ap am : Addr) (es : List (List Nat × List Nat × Addr)) : Prop where
  at_ : H ap = some (.dT (es.map kvOf))
  fN : F ap = none
  hN : H0 ap = none
  ls : ∀ t ∈ es, H t.2.2 = some (.lst (t.2.1.map nV)) ∧ F t.2.2 = none ∧ H0 t.2.2 = none ∧ t.2.2 ≠ am
  nd : (es.map (·.2.2)).Nodup
  kd : (es.map (·.1)).Nodup
theorem DicI.gr {H0 F H F' H' : Hp} {ap am : Addr} {es : List (List Nat × List Nat × Addr)} (d : DicI H0 F H ap am es) (g : Gr F H F' H') : DicI H0 F' H' ap am es where
  at_ := g.h _ _ d.at_
  fN := g.keep d.fN (by rw [d.at_]; exact fun z => nomatch z)
  hN := d.hN
  ls := fun t ht => by
    obtain ⟨h1, h2, h3, h4⟩ := d.ls t ht
    exact ⟨g.h _ _ h1, g.keep h2 (by rw [h1]; exact fun z => nomatch z), h3, h4⟩
  nd := d.nd
  kd := d.kd
theorem DicI.mem {H0 F H : Hp} {ap am : Addr} {xs : List V} {es : List (List Nat × List Nat × Addr)} (d : DicI H0 F H ap am es) (ha : am ≠ ap) : DicI H0 F (upd H am (.lst xs)) ap am es where
  at_ := by rw [upd_ne (Ne.symm ha)]; exact d.at_
  fN := d.fN
  hN := d.hN
  ls := fun t ht => by
    obtain ⟨h1, h2, h3, h4⟩ := d.ls t ht
    exact ⟨by rw [upd_ne h4]; exact h1, h2, h3, h4⟩
  nd := d.nd
  kd := d.kd
theorem valV_es (k : List Nat) : ∀ es : List (List Nat × List Nat × Addr), valV (es.map kvOf) (k.map nk) = (es.find? fun t => t.1 == k).map fun t => V.ref t.2.2
  | [] => rfl
  | t :: es => by
    by_cases h : t.1 = k
    · rw [List.map_cons, valV_pos (show (kvOf t).1 = k.map nk from congrArg (List.map nk) h), List.find?_cons_of_pos (by simp [h])]
      rfl
    · rw [List.map_cons, valV_neg (fun z => h (nk_inj z)), List.find?_cons_of_neg (by simp [h])]
      exact valV_es k es
theorem nodup_map_inj {α β : Type} {f : α → β} : ∀ {l : List α}, (l.map f).Nodup → ∀ {a b : α}, a ∈ l → b ∈ l → f a = f b → a = b
  | [], _, _, _, h, _, _ => by cases h
  | x :: l, h, a, b, ha, hb, e => by
    rw [List.map_cons, List.nodup_cons] at h
    rcases List.mem_cons.mp ha with ea | ha'
    · rcases List.mem_cons.mp hb with eb | hb'
      · rw [ea, eb]
      · exact absurd (List.mem_map.mpr ⟨b, hb', by rw [← e, ea]⟩) h.1
    · rcases List.mem_cons.mp hb with eb | hb'
      · exact absurd (List.mem_map.mpr ⟨a, ha', by rw [e, eb]⟩) h.1
      · exact nodup_map_inj h.2 ha' hb' e
/-- a place is put beside those of its key -/
theorem DicI.add {H0 F H : Hp} {ap am : Addr} {es : List (List Nat × List Nat × Addr)} {k : List Nat} {t : List Nat × List Nat × Addr} {x : Nat} (d : DicI H0 F H ap am es) (ht : (es.find? fun t => t.1 == k) = some t) :
    ∃ es', DicI H0 F (upd H t.2.2 (.lst (t.2.1.map nV ++ [nV x]))) ap am es' ∧ es'.map (fun t => (t.1, t.2.1)) = put (es.map fun t => (t.1, t.2.1)) k x := by
  have hk : t.1 = k := by simpa using List.find?_some ht
  have hm := List.mem_of_find?_eq_some ht
  obtain ⟨h1, h2, h3, h4⟩ := d.ls t hm
  have uniqA : ∀ s ∈ es, s.2.2 = t.2.2 → s = t := fun s hs e => nodup_map_inj (f := fun t : List Nat × List Nat × Addr => t.2.2) d.nd hs hm e
  have uniqK : ∀ s ∈ es, s.1 = k → s = t := fun s hs e => nodup_map_inj (f := fun t : List Nat × List Nat × Addr => t.1) d.kd hs hm (e.trans hk.symm)
  have hap : t.2.2 ≠ ap := fun z => by rw [z, d.at_] at h1; cases h1
  refine ⟨es.map fun s => if s.1 = k then (s.1, s.2.1 ++ [x], s.2.2) else s, ⟨?_, d.fN, d.hN, fun s hs => ?_, ?_, ?_⟩, ?_⟩
  · rw [upd_ne (Ne.symm hap), d.at_, List.map_map]
    congr 2
    refine List.map_congr_left fun s _ => ?_
    show kvOf s = kvOf (if s.1 = k then _ else _)
    by_cases c : s.1 = k
    · rw [if_pos c]
    · rw [if_neg c]
  · obtain ⟨r, hr, rfl⟩ := List.mem_map.mp hs
    obtain ⟨r1, r2, r3, r4⟩ := d.ls r hr
    by_cases c : r.1 = k
    · rw [if_pos c]
      have e := uniqK r hr c
      subst e
      refine ⟨?_, r2, r3, r4⟩
      show upd H r.2.2 _ r.2.2 = some (.lst ((r.2.1 ++ [x]).map nV))
      rw [upd_same, List.map_append]
      rfl
    · rw [if_neg c]
      have ne : r.2.2 ≠ t.2.2 := fun z => c (by rw [uniqA r hr z, hk])
      exact ⟨by rw [upd_ne ne]; exact r1, r2, r3, r4⟩
  · have e : (es.map fun s => if s.1 = k then (s.1, s.2.1 ++ [x], s.2.2) else s).map (·.2.2) = es.map (·.2.2) := by
      rw [List.map_map]
      refine List.map_congr_left fun s _ => ?_
      show (if s.1 = k then (s.1, s.2.1 ++ [x], s.2.2) else s).2.2 = s.2.2
      by_cases c : s.1 = k
      · rw [if_pos c]
      · rw [if_neg c]
    rw [e]
    exact d.nd
  · have e : (es.map fun s => if s.1 = k then (s.1, s.2.1 ++ [x], s.2.2) else s).map (·.1) = es.map (·.1) := by
      rw [List.map_map]
      refine List.map_congr_left fun s _ => ?_
      show (if s.1 = k then (s.1, s.2.1 ++ [x], s.2.2) else s).1 = s.1
      by_cases c : s.1 = k
      · rw [if_pos c]
      · rw [if_neg c]
    rw [e]
    exact d.kd
  · unfold put
    have ha : (es.map fun t => (t.1, t.2.1)).any (fun r => r.1 == k) = true := List.any_eq_true.mpr ⟨(t.1, t.2.1), List.mem_map.mpr ⟨t, hm, rfl⟩, by simp [hk]⟩
    rw [if_pos ha, List.map_map, List.map_map]
    refine List.map_congr_left fun s _ => ?_
    show ((if s.1 = k then (s.1, s.2.1 ++ [x], s.2.2) else s).1, (if s.1 = k then (s.1, s.2.1 ++ [x], s.2.2) else s).2.1) = if (s.1 == k) = true then (s.1, s.2.1 ++ [x]) else (s.1, s.2.1)
    by_cases c : s.1 = k
    · rw [if_pos c, if_pos (by simp [c])]
    · rw [if_neg c, if_neg (by simp [c])]
theorem DicI.new {H0 F H : Hp} {ap am c : Addr} {es : List (List Nat × List Nat × Addr)} {k : List Nat} {x : Nat} (d : DicI H0 F H ap am es) (ht : (es.find? fun t => t.1 == k) = none) (hc : H c = some (.lst [])) (hF : F c = none) (h0 : H0 c = none) (hne : c ≠ am) (hes : ∀ t ∈ es, t.2.2 ≠ c) :
    ∃ es', DicI H0 F (upd (upd H ap (.dT (putK (es.map kvOf) (k.map nk) (.ref c)))) c (.lst [nV x])) ap am es' ∧ es'.map (fun t => (t.1, t.2.1)) = put (es.map fun t => (t.1, t.2.1)) k x := by
  have hap : c ≠ ap := fun z => by rw [z, d.at_] at hc; cases hc
  have hk : ∀ t ∈ es, t.1 ≠ k := fun t h z => by
    have := List.find?_eq_none.mp ht t h
    simp [z] at this
  have hany : ((es.map kvOf).any fun kv => decide (kv.1 = k.map nk)) = false := by
    rw [List.any_eq_false]
    intro p hp
    obtain ⟨t, h, rfl⟩ := List.mem_map.mp hp
    simp only [decide_eq_true_eq]
    exact fun z => hk t h (nk_inj z)
  refine ⟨es ++ [(k, [x], c)], ⟨?_, d.fN, d.hN, fun s hs => ?_, ?_, ?_⟩, ?_⟩
  · rw [upd_ne (Ne.symm hap), upd_same]
    unfold putK
    rw [hany, if_neg Bool.false_ne_true, List.map_append]
    rfl
  · rcases List.mem_append.mp hs with h | h
    · obtain ⟨r1, r2, r3, r4⟩ := d.ls s h
      have e1 : s.2.2 ≠ ap := fun z => by rw [z, d.at_] at r1; cases r1
      exact ⟨by rw [upd_ne (hes s h), upd_ne e1]; exact r1, r2, r3, r4⟩
    · rw [List.mem_singleton.mp h]
      exact ⟨upd_same, hF, h0, hne⟩
  · rw [List.map_append, List.nodup_append]
    refine ⟨d.nd, by simp, fun a ha b hb => ?_⟩
    obtain ⟨t, h, rfl⟩ := List.mem_map.mp ha
    have hb' : b = c := by simpa using hb
    rw [hb']
    exact hes t h
  · rw [List.map_append, List.nodup_append]
    refine ⟨d.kd, by simp, fun a ha b hb => ?_⟩
    obtain ⟨t, h, rfl⟩ := List.mem_map.mp ha
    have hb' : b = k := by simpa using hb
    rw [hb']
    exact hk t h
  · unfold put
    have ha : (es.map fun t => (t.1, t.2.1)).any (fun r => r.1 == k) = false := by
      rw [List.any_eq_false]
      intro p hp
      obtain ⟨t, h, rfl⟩ := List.mem_map.mp hp
      simp only [beq_iff_eq]
      exact hk t h
    rw [ha, if_neg Bool.false_ne_true, List.map_append]
    rfl
def gapsL (ks : List Int) (rows : List (List Nat)) (ix : List Nat) : List (List Nat) := gapsOf (eqo ks) ks.length ix (rows.map List.length)
structure GapOk (ks : List Int) (rows : List (List Nat)) (ix : List Nat) : Prop where
  n1 : 2 ≤ ks.length
  n2 : ks.length ≤ 1000
  ixl : ix.length = ks.length
  ixb : ∀ x ∈ ix, x < rows.length
  ne : ∀ r ∈ rows, r ≠ []
  rl : rows.length ≤ 1000
def S_gaps (Z : Zt) (Rs : List Pr) (R : Pr) : Prop := ∃ (ks : List Int) (rows : List (List Nat)) (ix : List Nat), GapOk ks rows ix ∧ Rs = [PBook Z ks rows ix] ∧ R = D (.list ((gapsL ks rows ix).map tNs))
theorem S_gaps_len (Z : Zt) (Rs : List Pr) (R : Pr) (h : S_gaps Z Rs R) : Rs.length = 1 := by
  obtain ⟨_, _, _, _, rfl, _⟩ := h
  rfl
theorem fst_ns {F : Hp} {l : List Nat} {v : V} (h : Dn F v (.tuple (l.map dN))) : ∃ b, v = .ref b ∧ F b = some (.tup (l.map nV)) := by
  cases h with
  | @tup b ws _ h1 h2 =>
    have e : l.map dN = (l.map fun n : Nat => (n : Int)).map PyData.int := by rw [List.map_map]; rfl
    rw [e] at h2
    have := h2.toInts
    rw [List.map_map] at this
    subst this
    exact ⟨b, rfl, h1⟩
theorem dn_ns {F : Hp} : ∀ l : List Nat, DnA F (l.map nV) (l.map dN)
  | [] => .nil
  | x :: l => .cons (.int _) (dn_ns l)
theorem flat_ns (l : List Nat) : (l.map dN).all flatD = true := by
  rw [List.all_map]
  exact List.all_eq_true.mpr fun _ _ => rfl
abbrev gEnv (Z : Zt) (ks : List Int) (rows : List (List Nat)) (ix : List Nat) (m : List Nat) (x4 x5 : Sl) : List Sl := [.has (PBook Z ks rows ix), .has (PStrand Z ks), .own (m.map dN), .no, x4, x5, .no]
def GapI (Z : Zt) (ks : List Int) (rows : List (List Nat)) (ix : List Nat) (F0 H0 F1 : Hp) (i : Nat) (σ : L2.St) (H : Hp) : Prop :=
  ∃ (F2 : Hp) (am ap : Addr) (es : List (List Nat × List Nat × Addr)) (x4 x5 : Sl), Gr F0 H0 F2 H ∧ Ok H0 F2 H σ (gEnv Z ks rows ix (gapSt (eqo ks) ks.length ix (rows.map List.length) i).1 x4 x5) ∧ σ[2]? = some (some (.ref am)) ∧ σ[3]? = some (some (.ref ap)) ∧
    DicI H0 F2 H ap am es ∧ es.map (fun t => (t.1, t.2.1)) = (gapSt (eqo ks) ks.length ix (rows.map List.length) i).2 ∧ Ex F1 F2
theorem ok_side {H0 F H : Hp} {σ : L2.St} {env : List Sl} {b : Addr} {o : HO} (k : Ok H0 F H σ env) (hF : F b = none) (hne : ∀ i, Ownd env i → σ[i]? ≠ some (some (.ref b))) : Ok H0 F (upd H b o) σ env where
  ex := k.ex.mut hF
  has := k.has
  own := fun i ds h => by
    obtain ⟨a, xs, h1, h2, r⟩ := k.own i ds h
    have n : a ≠ b := fun z => hne i (.inl ⟨ds, h⟩) (by rw [h1, z])
    exact ⟨a, xs, h1, by rw [upd_ne n]; exact h2, r⟩
  ins := fun i a C fr h => by
    obtain ⟨dx, fs, h1, h2, r⟩ := k.ins i a C fr h
    have n : a ≠ b := fun z => hne i (.inr ⟨a, C, fr, h⟩) (by rw [h1, z])
    exact ⟨dx, fs, h1, by rw [upd_ne n]; exact h2, r⟩
  ap := k.ap
  len := k.len
theorem gEnv_side {Z : Zt} {ks : List Int} {rows : List (List Nat)} {ix m : List Nat} {R4 R5 : Pr} {H0 F H : Hp} {σ : L2.St} {am b : Addr} {o : HO} (k : Ok H0 F H σ (gEnv Z ks rows ix m (.has R4) (.has R5))) (s2 : σ[2]? = some (some (.ref am))) (hF : F b = none) (hne : b ≠ am) :
    Ok H0 F (upd H b o) σ (gEnv Z ks rows ix m (.has R4) (.has R5)) := ok_side k hF fun i h => by
  have e : i = 2 := by
    rcases h with ⟨ds, h⟩ | ⟨a, C, fr, h⟩
    · rcases i with _ | _ | _ | _ | _ | _ | _ | i <;> first | rfl | simp at h
    · rcases i with _ | _ | _ | _ | _ | _ | _ | i <;> simp at h
  rw [e, s2]
  exact fun z => hne (V.ref.inj (Option.some.inj (Option.some.inj z))).symm
theorem gaps_body {Z : Zt} (tc : Tc Z) {ks : List Int} {rows : List (List Nat)} {ix : List Nat} (go : GapOk ks rows ix) {F0 H0 F1 : Hp} {i : Nat} (hi : i < ks.length) {σ : L2.St} {H : Hp} (pp : GapI Z ks rows ix F0 H0 F1 i σ H) {De : Ends} (hD : De.nx = GapI Z ks rows ix F0 H0 F1 (i + 1)) :
    r_gaps3 Z De (σ.set 4 (some (.int (i : Int)))) H := by
  obtain ⟨F2, am, ap, es, x4, x5, g, o, h2, h3, d, hes, eF⟩ := pp
  have nB : ∀ f ∈ (["strand", "parties", "size", "lone", "_index_of"] : List Str), NoAttr Z.K Z.CB f := tc.nB
  have nS : ∀ f ∈ (["kinds", "size", "unlike_pairs", "ends_unlike", "variety"] : List Str), NoAttr Z.K Z.CS f := tc.nS
  have hkinds : ∀ env : List Sl, env[1]? = some (.has (PStrand Z ks)) → EvR (tFld Z.K (tVar 1) "kinds") env (D (.tuple (ks.map dI))) := fun env h => evr_fld (evr_var h) (by rfl) tc.clS (nS _ (by decide))
  have hsize : ∀ env : List Sl, env[1]? = some (.has (PStrand Z ks)) → EvR (tFld Z.K (tVar 1) "size") env (D (dN ks.length)) := fun env h => evr_fld (evr_var h) (by rfl) tc.clS (nS _ (by decide))
  have hparts : ∀ env : List Sl, env[0]? = some (.has (PBook Z ks rows ix)) → EvR (tFld Z.K (tVar 0) "parties") env (D (.tuple (rows.map tNs))) := fun env h => evr_fld (evr_var h) (by rfl) tc.clB (nB _ (by decide))
  have hml : (gapSt (eqo ks) ks.length ix (rows.map List.length) i).1.length = rows.length := by rw [gapSt_len, List.length_map]
  have hsucc := gapSt_succ (eqo ks) ks.length ix (rows.map List.length) i
  have hdl := gapSt_d (eqo ks) ks.length ix (rows.map List.length) i
  have hdb := gapSt_b (eqo ks) ks.length ix (rows.map List.length) i
  have hel : es.length ≤ i := by
    have := congrArg List.length hes
    rw [List.length_map] at this
    omega
  generalize gapSt (eqo ks) ks.length ix (rows.map List.length) i = st at o hes hml hsucc hdl hdb
  obtain ⟨mm, dd⟩ := st
  dsimp only at o hes hml hdl hdb
  have hxi : ix[i]? = some (ix.getD i 0) := getN (by rw [go.ixl]; exact hi)
  have hxb : ix.getD i 0 < rows.length := go.ixb _ (List.mem_of_getElem? hxi)
  have hszg : ∀ xi, xi < rows.length → (rows.map List.length).getD xi 0 = (rows.getD xi []).length := fun xi h => by rw [getD_lt (by rwa [List.length_map]), getD_lt h, List.getElem_map]
  have hsz := hszg _ hxb
  have hrow : rows[ix.getD i 0]? = some (rows.getD (ix.getD i 0) []) := by rw [getD_lt hxb]; exact List.getElem?_eq_getElem hxb
  have hrp : 0 < (rows.getD (ix.getD i 0) []).length := List.length_pos_iff.mpr (go.ne _ (List.mem_of_getElem? hrow))
  have hgm : gapM ix (rows.map List.length) mm i = mm.set (ix.getD i 0) ((mm.getD (ix.getD i 0) 0 + 1) % (rows.getD (ix.getD i 0) []).length) := by
    unfold gapM
    rw [hsz]
  unfold gapStep at hsucc
  dsimp only at hsucc
  rw [hgm] at hsucc
  generalize ix.getD i 0 = xi at hxi hxb hrow hrp hgm hsucc hsz
  -- index
  have o4 := o.setH (i := 4) (R := Fz.D (dN i)) (v := .int (i : Int)) (.int _)
  unfold r_gaps3
  refine evr_meth (Rs := [D (dN i)]) (env := gEnv Z ks rows ix mm (.has (D (dN i))) x5) (evr_var rfl) (by rfl) (eva_cons (evr_var rfl) eva_nil) ⟨ks, rows, ix, i, xi, hxi, rfl, rfl⟩ H0 F2 H _ o4 g.h _ fun v F3 H3 g3 r3 => ?_
  have d3 := d.gr g3
  have o5 := (o4.gr g3).setH (i := 5) (R := D (dN xi)) r3
  show r_gaps2 Z De (((σ.set 4 (some (.int (i : Int)))).set 5 (some v))) H3
  have s2 : ((σ.set 4 (some (V.int (i : Int)))).set 5 (some v))[2]? = some (some (.ref am)) := by rw [List.getElem?_set_ne (by decide), List.getElem?_set_ne (by decide)]; exact h2
  have s3 : ((σ.set 4 (some (V.int (i : Int)))).set 5 (some v))[3]? = some (some (.ref ap)) := by rw [List.getElem?_set_ne (by decide), List.getElem?_set_ne (by decide)]; exact h3
  generalize (σ.set 4 (some (V.int (i : Int)))).set 5 (some v) = σ5 at o5 s2 s3
  have o5' : Ok H0 F3 H3 σ5 (gEnv Z ks rows ix mm (.has (D (dN i))) (.has (D (dN xi)))) := o5
  clear o5
  -- members
  unfold r_gaps2
  refine evr_modN (env := gEnv Z ks rows ix mm (.has (D (dN i))) (.has (D (dN xi)))) (m := mm.getD xi 0 + 1) (n := (rows.getD xi []).length) (evr_addN (n := 1) (evr_own 2 rfl (evr_ixN (evr_var rfl) (evr_var rfl) (getN (by omega))) rfl) evr_int)
    (evr_lenTM (enc := dN) (evr_ixTM (enc := tNs) (hparts _ rfl) (evr_var rfl) hrow)) hrp H0 F3 H3 σ5 o5' (g.h.trans g3.h) _ fun y F4 H4 g4 r4 => ?_
  have d4 := d3.gr g4
  have o6 := o5'.gr g4
  obtain ⟨am', xs, e1, e2, e3, e4, e5⟩ := o6.own 2 (mm.map dN) rfl
  rw [s2] at e1
  cases e1
  have hax : am ≠ ap := fun z => by rw [z, d4.at_] at e2; cases e2
  refine ⟨.ref am, s2, evr_var (env := gEnv Z ks rows ix mm (.has (D (dN i))) (.has (D (dN xi)))) rfl H0 F4 H4 σ5 o6 ((g.h.trans g3.h).trans g4.h) _ fun jv F5 H5 g5 r5 => ?_⟩
  have d5 := d4.gr g5
  have o7 := o6.gr g5
  have g05 := ((g.trans g3).trans g4).trans g5
  have f5 : F5 am = none := g5.keep e3 (by rw [e2]; exact fun z => nomatch z)
  refine ⟨am, xs, (xi : Int), xi, rfl, dn_int r5, g5.h _ _ e2, ?_, ?_⟩
  · unfold ixN
    rw [if_pos (by omega), if_pos (by rw [e5.len, List.length_map]; omega)]
    rfl
  have e6 : DnA F5 (xs.set xi y) ((mm.set xi ((mm.getD xi 0 + 1) % (rows.getD xi []).length)).map dN) := by
    rw [List.map_set]
    exact (DnA.up g5.f _ _ e5).set xi (Dn.up g5.f _ _ r4)
  have o8 := o7.mutO (i := 2) rfl s2 e6
  have d8 := d5.mem (xs := xs.set xi y) hax
  have g8 : Gr F0 H0 F5 (upd H5 am (.lst (xs.set xi y))) := g05.put f5 e4
  generalize upd H5 am (.lst (xs.set xi y)) = H8 at o8 d8 g8
  generalize mm.set xi ((mm.getD xi 0 + 1) % (rows.getD xi []).length) = m2 at o8 hsucc
  have o8' : Ok H0 F5 H8 σ5 (gEnv Z ks rows ix m2 (.has (D (dN i))) (.has (D (dN xi)))) := o8
  clear o8
  have eF5 : Ex F1 F5 := eF.trans ((g3.f.trans g4.f).trans g5.f)
  -- the dict
  have hmod : (i + 1) % ks.length < ks.length := Nat.mod_lt _ (by omega)
  show r_gaps1 Z De σ5 H8
  unfold r_gaps1
  refine evt_neI (env := gEnv Z ks rows ix m2 (.has (D (dN i))) (.has (D (dN xi)))) (evr_ixTI (hkinds _ rfl) (evr_var rfl) (getI hi)) (evr_ixTI (hkinds _ rfl) (evr_modN (evr_addN (n := 1) (evr_var rfl) evr_int) (hsize _ rfl) (by omega)) (getI hmod)) H0 F5 H8 σ5 o8' g8.h _ fun F9 H9 g9 => ?_
  have heq : eqo ks i ((i + 1) % ks.length) = (ks.getD i 0 == ks.getD ((i + 1) % ks.length) 0) := eqo_at (getI hi) (getI hmod)
  rw [heq] at hsucc
  have d9 := d8.gr g9
  have o9 := o8'.gr g9
  have g09 := g8.trans g9
  cases hc : (ks.getD i 0 == ks.getD ((i + 1) % ks.length) 0) with
  | true =>
    rw [hc, if_pos rfl] at hsucc
    show De.nx σ5 H9
    rw [hD]
    exact ⟨F9, am, ap, es, _, _, g09, by rw [hsucc]; exact o9, s2, s3, d9, by rw [hsucc]; exact hes, eF5.trans g9.f⟩
  | false =>
    rw [hc, if_neg Bool.false_ne_true] at hsucc
    refine ⟨.ref ap, s3, ap, rfl, .inr ⟨_, .inl d9.at_⟩, evr_ownT (es := m2.map dN) 2 rfl (evr_tupleL (K := Z.K) (env := (gEnv Z ks rows ix m2 (.has (D (dN i))) (.has (D (dN xi)))).set 2 (.has (D (.list (m2.map dN))))) (evr_var rfl)) (flat_ns m2) H0 F9 H9 σ5 o9 g09.h _ fun kv F10 H10 g10 r10 => ?_⟩
    obtain ⟨b, rfl, hb⟩ := fst_ns r10
    have d10 := d9.gr g10
    have o10 := o9.gr g10
    have g010 := g09.trans g10
    refine evn_nil (env := gEnv Z ks rows ix m2 (.has (D (dN i))) (.has (D (dN xi)))) H0 F10 H10 σ5 o10 g010.h _ fun c ys F11 H11 g11 hcn hcF hcl hcd => ?_
    cases hcd
    have d11 := d10.gr g11
    have o11 := o10.gr g11
    have g011 := g010.trans g11
    have hc0 : H0 c = none := g010.h.free hcn
    obtain ⟨am'', xs'', q1, q2, q3, q4, q5⟩ := o11.own 2 (m2.map dN) rfl
    rw [s2] at q1
    cases q1
    have hcam : c ≠ am := fun z => by
      obtain ⟨am3, xs3, w1, w2, _⟩ := o10.own 2 (m2.map dN) rfl
      rw [s2] at w1
      cases w1
      rw [z, w2] at hcn
      cases hcn
    have hces : ∀ t ∈ es, t.2.2 ≠ c := fun t ht z => by
      have := (d10.ls t ht).1
      rw [z, hcn] at this
      cases this
    have hkk : (m2.map nV) = (m2.map nk).map kV := by rw [List.map_map]; rfl
    refine ⟨es.map kvOf, m2.map nk, b, d11.at_, rfl, by rw [← hkk]; exact g011.s _ _ (g11.f _ _ hb), by rw [List.length_map, sizeLine_eq]; have := go.n2; omega, fun v hv => ?_, fun hn => ?_⟩
    · -- the key stands
      rw [valV_es] at hv
      obtain ⟨t, ht, rfl⟩ := Option.map_eq_some_iff.mp hv
      have hm := List.mem_of_find?_eq_some ht
      obtain ⟨l1, l2, l3, l4⟩ := d11.ls t hm
      obtain ⟨es', d12, he'⟩ := d11.add (x := i) ht
      have ht2 : t.2.1.length ≤ i := hdb (t.1, t.2.1) (by rw [← hes]; exact List.mem_map.mpr ⟨t, hm, rfl⟩)
      obtain ⟨pv, hpv, dpv⟩ := o11.has 4 (D (dN i)) rfl
      have epv := dn_int dpv
      subst epv
      refine ⟨.inl ⟨rfl, _, SqL.of l1⟩, .int (i : Int), hpv, t.2.2, t.2.1.map nV, .int (i : Int), rfl, rfl, l1, by rw [List.length_map, sizeLine_eq]; have := go.n2; omega, ?_⟩
      rw [hD]
      refine ⟨F11, am, ap, es', .has (D (dN i)), .has (D (dN xi)), g011.put l2 l3, ?_, s2, s3, d12, by rw [hsucc]; rw [he', hes], ((eF5.trans g9.f).trans g10.f).trans g11.f⟩
      rw [hsucc]
      exact gEnv_side o11 s2 l2 l4
    · -- a new key
      rw [valV_es] at hn
      have hn' := Option.map_eq_none_iff.mp hn
      have hcap : c ≠ ap := fun z => by rw [z, d11.at_] at hcl; cases hcl
      obtain ⟨es', d12, he'⟩ := d11.new (x := i) hn' hcl hcF hc0 hcam hces
      obtain ⟨pv, hpv, dpv⟩ := o11.has 4 (D (dN i)) rfl
      have epv := dn_int dpv
      subst epv
      have oS := gEnv_side (o := .dT (putK (es.map kvOf) (m2.map nk) (.ref c))) o11 s2 d11.fN (Ne.symm hax)
      refine ⟨.inl ⟨rfl, [], SqL.of (by rw [upd_ne hcap]; exact hcl)⟩, .int (i : Int), hpv, c, [], .int (i : Int), rfl, rfl, by rw [upd_ne hcap]; exact hcl, by rw [sizeLine_eq]; exact Nat.succ_pos _, ?_⟩
      rw [hD]
      refine ⟨F11, am, ap, es', .has (D (dN i)), .has (D (dN xi)), (g011.put d11.fN d11.hN).put hcF hc0, ?_, s2, s3, d12, by rw [hsucc]; rw [he', hes], ((eF5.trans g9.f).trans g10.f).trans g11.f⟩
      rw [hsucc]
      exact gEnv_side oS s2 hcF hcam
theorem gaps_ret {Z : Zt} {ks : List Int} {rows : List (List Nat)} {ix : List Nat} (go : GapOk ks rows ix) {F0 H0 F1 : Hp} {σ : L2.St} {H : Hp} (pp : GapI Z ks rows ix F0 H0 F1 ks.length σ H) {De : Ends} (hD : ∀ v F H, Gr F0 H0 F H → (D (.list ((gapsL ks rows ix).map tNs))).p v F → De.rt v H) :
    r_gaps4 Z De σ H := by
  obtain ⟨F2, am, ap, es, x4, x5, g, o, h2, h3, d, hes, eF⟩ := pp
  have hlen : 6 < σ.length := by rw [← o.len]; exact (by decide : 6 < 7)
  have hdl := gapSt_d (eqo ks) ks.length ix (rows.map List.length) ks.length
  have hel : es.length ≤ 1000 := by
    have := congrArg List.length hes
    rw [List.length_map] at this
    have := go.n2
    omega
  have hgl : (gapsL ks rows ix).map tNs = es.map fun t => tNs t.2.1 := by
    show ((gapSt _ _ _ _ _).2.map (·.2)).map tNs = _
    rw [← hes, List.map_map, List.map_map]
    rfl
  rw [hgl] at hD
  have hap : H ap ≠ none := by rw [d.at_]; exact fun z => nomatch z
  unfold r_gaps4
  refine ⟨ap, .dT (es.map kvOf), d.at_, True.intro, fun od => ⟨.ref ap, h3, ap, od, es.map kvOf, rfl, upd_same, fun A hA => ?_⟩⟩
  have hAap : A ≠ ap := fun z => by rw [z, upd_same] at hA; cases hA
  have hAn : H A = none := by rwa [upd_ne hAap] at hA
  have eL : Ex F2 (upd H ap (.frz od (.dT (es.map kvOf)))) := g.s.mut d.fN
  refine ⟨fun i m H' => m = es.length - i ∧ i ≤ es.length ∧ ∃ (F3 : Hp) (acc : List V), Gr F2 (upd H ap (.frz od (.dT (es.map kvOf)))) F3 H' ∧ F3 A = none ∧ H' A = some (.lst acc) ∧ DnA F3 acc ((es.take i).map fun t => tNs t.2.1), ⟨es.length, by simp, Nat.zero_le _, F2, [], Gr.newO eL hA, eL.free hA, upd_same, .nil⟩, ?_⟩
  rintro i m H' ⟨rfl, hi, F3, acc, g3, f3, h3', d3⟩
  have hfrz : H' ap = some (.frz od (.dT (es.map kvOf))) := g3.h _ _ upd_same
  by_cases hlt : i < es.length
  · refine .inr ⟨⟨hfrz, by rw [List.length_map]; exact hlt⟩, fun H2 => ∃ (F3 : Hp) (acc : List V), Gr F2 (upd H ap (.frz od (.dT (es.map kvOf)))) F3 H2 ∧ F3 A = none ∧ H2 A = some (.lst acc) ∧ DnA F3 acc ((es.take (i + 1)).map fun t => tNs t.2.1), fun H2 p' => ⟨es.length - (i + 1), by omega, rfl, hlt, p'⟩, fun x H2 y => ?_⟩
    obtain ⟨rfl, k, hk⟩ := y
    rw [List.getElem?_map, List.getElem?_eq_getElem hlt] at hk
    have hx : V.ref es[i].2.2 = x := congrArg Prod.snd (Option.some.inj hk)
    subst hx
    have hm : es[i] ∈ es := List.getElem_mem hlt
    obtain ⟨l1, l2, l3, l4⟩ := d.ls _ hm
    have hbap : es[i].2.2 ≠ ap := fun z => by rw [z, d.at_] at l1; cases l1
    have hb : H2 es[i].2.2 = some (.lst (es[i].2.1.map nV)) := g3.h _ _ (by rw [upd_ne hbap]; exact l1)
    refine ⟨?_, ?_⟩
    · show ((σ.set 6 none).set 6 (some (.ref es[i].2.2))).set 6 none = σ.set 6 none
      rw [List.set_set, List.set_set]
    unfold tYes
    dsimp only
    rw [if_pos rfl]
    refine ⟨.ref es[i].2.2, ?_, .inl ⟨es[i].2.2, es[i].2.1.map nV, rfl, SqL.of hb, fun p hp => ?_⟩⟩
    · show ((σ.set 6 none).set 6 (some (.ref es[i].2.2)))[6]? = _
      rw [List.getElem?_set_self]
      rw [List.length_set]
      exact hlen
    have hpA : A ≠ p := fun z => by rw [← z, h3'] at hp; cases hp
    refine ⟨acc, by rw [upd_ne hpA]; exact h3', by rw [d3.len, List.length_map, List.length_take, sizeLine_eq]; omega, upd F3 p (.tup (es[i].2.1.map nV)), acc ++ [.ref p], (g3.trans (Gr.new g3.s hp)).put (by rw [upd_ne hpA]; exact f3) hA, by rw [upd_ne hpA]; exact f3, upd_same, ?_⟩
    rw [List.take_succ_eq_append_getElem hlt, List.map_append]
    exact (DnA.up (Ex.new (g3.s.free hp)) _ _ d3).app (.cons (.tup upd_same (dn_ns _)) .nil)
  · have e3 : i = es.length := by omega
    subst e3
    rw [List.take_length] at d3
    refine .inl ⟨⟨hfrz, by rw [List.length_map]; exact Nat.le_refl _⟩, hfrz, ?_⟩
    have fap : F3 ap = none := g3.keep d.fN (by rw [upd_same]; exact fun z => nomatch z)
    have gU : Gr F2 H F3 (upd H' ap (.dT (es.map kvOf))) := ⟨g3.f, fun a u e => by
        by_cases z : a = ap
        · subst z; rw [upd_same, ← d.at_, e]
        · rw [upd_ne z]; exact g3.h _ _ (by rw [upd_ne z]; exact e), g3.s.mut fap, fun a ha => by
        rcases g3.n a ha with q | q
        · exact .inl q
        · by_cases z : a = ap
          · rw [z, upd_same] at q; cases q
          · rw [upd_ne z] at q; exact .inr q⟩
    have hA2 : upd H' ap (.dT (es.map kvOf)) A = some (.lst acc) := by rw [upd_ne hAap]; exact h3'
    exact hD (.ref A) (upd F3 A (.lst acc)) _ (g.trans (gU.freeze f3 hAn hA2)) (.lst upd_same (DnA.up (Ex.new f3) _ _ d3))
theorem pure_gaps {Z : Zt} (tc : Tc Z) {vs : List V} {H : Hp} {Q : VK} {E : XK} (h : Fs (S_gaps Z) vs H Q E) : r_gaps Z { nx := fun _ H' => Q .non H', rt := Q } (L2.start N_gaps vs) H := by
  obtain ⟨Rs, R, F, ⟨ks, rows, ix, go, rfl, rfl⟩, e, a, q⟩ := h
  have nB : ∀ f ∈ (["strand", "parties", "size", "lone", "_index_of"] : List Str), NoAttr Z.K Z.CB f := tc.nB
  have nS : ∀ f ∈ (["kinds", "size", "unlike_pairs", "ends_unlike", "variety"] : List Str), NoAttr Z.K Z.CS f := tc.nS
  refine se_body (N := N_gaps) (n := 7) rfl e a q ?_
  show SE F H _ [.has (PBook Z ks rows ix), .no, .no, .no, .no, .no, .no] _
  unfold r_gaps
  refine sq_asg (R := PStrand Z ks) (evr_fld (evr_var rfl) (by rfl) tc.clB (nB _ (by decide))) ?_
  unfold r_gaps7
  refine sq_own (evn_repN (x := 0) (n := rows.length) evr_int (evr_fld (evr_var rfl) (by rfl) tc.clB (nB _ (by decide))) (by have := go.rl; omega)) ?_
  intro F1 H1 σ De g o m p hp
  obtain ⟨am, xs, s2, ham, hamF, ham0, hdn⟩ := o.own 2 _ rfl
  have o2 := (o.gr (Gr.newO (o := .dT []) o.ex hp)).setN (i := 3) (x := some (.ref p))
  have g2 := g.up (Ex.new (o := .dT []) hp)
  have s2' : (σ.set 3 (some (V.ref p)))[2]? = some (some (.ref am)) := by rw [List.getElem?_set_ne (by decide)]; exact s2
  have s3' : (σ.set 3 (some (V.ref p)))[3]? = some (some (.ref p)) := by rw [List.getElem?_set_self]; rw [← o.len]; exact (by decide : 3 < 7)
  have dd : DicI H F1 (upd H1 p (.dT [])) p am [] := ⟨upd_same, o.ex.free hp, g.h.free hp, fun t ht => (by cases ht), (by simp), (by simp)⟩
  show r_gaps5 Z De (σ.set 3 (some (.ref p))) (upd H1 p (.dT []))
  generalize σ.set 3 (some (V.ref p)) = σ3 at o2 s2' s3'
  generalize upd H1 p (.dT []) = H3 at o2 g2 dd
  unfold r_gaps5
  refine evr_fld (env := [.has (PBook Z ks rows ix), .has (PStrand Z ks), .own ((List.replicate rows.length 0).map dN), .no, .no, .no, .no]) (te := tVar 1) (R := D (dN ks.length)) (evr_var rfl) (by rfl) tc.clS (nS _ (by decide)) H F1 H3 σ3 o2 g2.h _ fun v F4 H4 g4 r4 => ?_
  refine ⟨(ks.length : Int), by rw [dn_int r4], by omega, by have := go.n2; omega, ?_⟩
  rw [Int.toNat_natCast]
  refine for_range (lo := 0) (n := ks.length) (GapI Z ks rows ix F H F4) ⟨F4, am, p, [], .no, .no, g2.trans g4, ?_, s2', s3', dd.gr g4, ?_, Ex.refl _⟩ (fun i σ' H' hi pp => ?_) fun σ' H' pp => ?_
  · have e0 : (gapSt (eqo ks) ks.length ix (rows.map List.length) 0).1 = List.replicate rows.length 0 := by unfold gapSt; simp
    rw [e0]
    exact o2.gr g4
  · unfold gapSt
    simp
  · rw [Int.zero_add]
    exact gaps_body tc go hi pp rfl
  · exact gaps_ret go pp fun v F' H' g' r' => m.rt v F' H' g' r'

def L_gaps : Nat := 2
abbrev P_gaps : List Str := ["book"]
theorem cal_gaps {P : Program} {w : World} {Z : Zt} {mg : Str → Option Value} {base : Heap} {f : Addr} {fd : FuncData} (F : Fun Z.K "gaps" "gaps" st_gaps f fd) (gf : mg "gaps" = some (.ref f)) (T : Tx0 mg) (C_Bparty_of : Calm P w Z.K mg base Z.CB "party_of" L_Bparty_of P_Bparty_of (Fs (S_Bparty_of Z))) (tc : Tc Z) : Cal P w Z.K mg base "gaps" L_gaps P_gaps (Fs (S_gaps Z)) := by
  refine ⟨f, fd, gf, F.kp, F.binds fun _ _ _ _ _ _ us hl => match us, hl with | [_], _ => rfl, F.ok sc_gaps (fun vs H Q E h => Fs.len (S := S_gaps Z) (n := 1) (S_gaps_len Z) h) (fun cdv A outer s H vs Q E hr h => ⟨r_gaps Z, PSs.nox ?_, pure_gaps tc h⟩)⟩
  have hu := hr.units
  have hu65 := room65 hr
  have hu64 := room64 hr
  exact (pss_cons (ps_set (i := 1) sc_gaps.nd rfl (Or.inl rfl) (pe_fld (pv 0) rfl)) (pss_cons (ps_set (i := 2) sc_gaps.nd rfl (Or.inl rfl) (pe_op op_rep (pe_lst (pa_cons pe_int pa_nil)) (pe_fld (pv 0) rfl))) (pss_cons (ps_set (i := 3) sc_gaps.nd rfl (Or.inl rfl) pe_dnewT) (pss_cons (ps_for PassesOwn.never rfl (pi_range1 rfl T.range (pa_cons (pe_fld (pv 1) rfl) pa_nil)) (pg_name (i := 4) sc_gaps.nd rfl (Or.inl rfl)) (pss_cons (ps_set (i := 5) sc_gaps.nd rfl (Or.inl rfl) (pe_calm C_Bparty_of tc.clB (hr.mono (by decide)) (pv 0) (pa_cons (pv 4) pa_nil))) (pss_cons (ps_asg (pe_op op_mod (pe_op op_add (pe_ix ix_list (pv 2) (pv 5) (fun _ _ => rfl)) pe_int) (pe_callB call_len_seq (by rfl) T.len PySem.boot_len (pa_cons (pe_ix ix_tup (pe_fld (pv 0) rfl) (pv 5) (fun _ _ => rfl)) pa_nil))) (pg_sub (pv 2) (pv 5) set_list)) (pss_one (ps_if (pt_cmpR op_ne (pe_ix ix_tup (pe_fld (pv 1) rfl) (pv 4) (fun _ _ => rfl)) (pe_ix ix_tup (pe_fld (pv 1) rfl) (pe_op op_mod (pe_op op_add (pv 4) pe_int) (pe_fld (pv 1) rfl)) (fun _ _ => rfl)) (nomark _)) (pss_one (ps_expr (pe_bm PySem.F.plainAttrs_list PySem.F.slot_list_append PySem.F.type_list_append mt_append (pe_dsetdT (hu_of hr) (pv 3) (pe_tupleOf rfl T.tuple (pv 2)) (pe_lst pa_nil) ⟨by rfl, by rfl, by rfl, by rfl⟩) (pa_cons (pv 4) pa_nil)))) pss_nil))))) (pss_one (ps_ret (pe_lock (pe_lc (own := [("row", 6)]) (g := gName 6) (tt := tYes) rfl sc_gaps.nd (pi_valuesT (pv 3)) (blkOk_by (own := [("row", 6)]) (N := N_gaps) (sc := defScope st_gaps) (by decide +kernel)) (fun _ _ _ _ _ => pg_name (i := 6) sc_gaps.nd rfl (Or.inl rfl)) (fun _ _ _ _ _ => pts_nil) (fun _ _ _ _ _ => (pe_tupleOf rfl T.tuple (pv 6)))))))))))


end Bm

/-! text BmD16 -/
set_option Elab.async false
set_option linter.all false
set_option maxRecDepth 100000
set_option maxHeartbeats 4000000
namespace Bm
open PySem PySem.Spec PyProof.Rows L2 Fz ClX PpSet
/-! ### narrow_gaps -/
abbrev st_narrow_gaps : Stmt := topS 3
abbrev N_narrow_gaps : List Str := ["book", "kinds", "narrow", "index", "gap", "place"]
theorem sc_narrow_gaps : FnScope N_narrow_gaps ["book"] (defScope st_narrow_gaps) := ⟨rfl, rfl, rfl, by decide +kernel, rfl, by decide +kernel, by decide +kernel⟩
def r_narrow_gaps1 (Z : Zt) (w : World) : TS := (tIfS (tAnd (tTest (tOp xGt (tCB (rLenS Z.K) (tCons (tVar 4) tNil)) (tC (.int 2)))) (tTest (tOp rEq (tCB (rLenSO w) (tCons (tScI w (iTup Z.K (tVar 4)) (gName 5) tYes (tOp (rIxT Z.K) (tVar 1) (tVar 5)) [5]) tNil)) (tC (.int 2))))) (tDrop (tBM Z.K "list" rAppend (tVar 2) (tCons (tVar 3) tNil))) tNext)
def r_narrow_gaps2 (Z : Zt) (w : World) : TS := (tRet (tVar 2))
def r_narrow_gaps3 (Z : Zt) (w : World) : TS := (tSeq (tFor (iEnum Z.K (tCons (tCall (Fs (S_gaps Z)) [] E0 (tCons (tVar 0) tNil)) tNil)) (gTup Z.K 2 (gCons (gName 3) (gCons (gName 4) gNil))) (r_narrow_gaps1 Z w)) (r_narrow_gaps2 Z w))
def r_narrow_gaps4 (Z : Zt) (w : World) : TS := (tSeq (tAsg (tLst tNil) (gName 2)) (r_narrow_gaps3 Z w))
def r_narrow_gaps (Z : Zt) (w : World) : TS := (tSeq (tAsg (tFld Z.K (tFld Z.K (tVar 0) "strand") "kinds") (gName 1)) (r_narrow_gaps4 Z w))


theorem gaps_in {ks : List Int} {rows : List (List Nat)} {ix : List Nat} : ∀ g ∈ gapsL ks rows ix, g.length ≤ ks.length ∧ ∀ x ∈ g, x < ks.length := fun g hg => by
  obtain ⟨r, hr, rfl⟩ := List.mem_map.mp hg
  exact ⟨gapSt_b _ _ _ _ _ r hr, gapSt_in _ _ _ _ _ r hr⟩
theorem gaps_len {ks : List Int} {rows : List (List Nat)} {ix : List Nat} : (gapsL ks rows ix).length ≤ ks.length := by
  show (List.map _ _).length ≤ _
  rw [List.length_map]
  exact gapSt_d _ _ _ _ _
def isN (ks : List Int) (g : List Nat) : Bool := decide (2 < g.length) && decide ((dset (g.map fun x => ks.getD x 0)).length = 2)
def narrowL (ks : List Int) (gs : List (List Nat)) (i : Nat) : List Nat := (List.range i).filter fun j => isN ks (gs.getD j [])
def S_narrow_gaps (Z : Zt) (Rs : List Pr) (R : Pr) : Prop := ∃ (ks : List Int) (rows : List (List Nat)) (ix : List Nat), GapOk ks rows ix ∧ Rs = [PBook Z ks rows ix] ∧ R = D (dNs (narrowL ks (gapsL ks rows ix) (gapsL ks rows ix).length))
theorem S_narrow_gaps_len (Z : Zt) (Rs : List Pr) (R : Pr) (h : S_narrow_gaps Z Rs R) : Rs.length = 1 := by
  obtain ⟨_, _, _, _, rfl, _⟩ := h
  rfl
theorem pure_narrow_gaps {Z : Zt} (tc : Tc Z) {w : World} {vs : List V} {H : Hp} {Q : VK} {E : XK} (h : Fs (S_narrow_gaps Z) vs H Q E) : r_narrow_gaps Z w { nx := fun _ H' => Q .non H', rt := Q } (L2.start N_narrow_gaps vs) H := by
  obtain ⟨Rs, R, F, ⟨ks, rows, ix, go, rfl, rfl⟩, e, a, q⟩ := h
  have nB : ∀ f ∈ (["strand", "parties", "size", "lone", "_index_of"] : List Str), NoAttr Z.K Z.CB f := tc.nB
  have nS : ∀ f ∈ (["kinds", "size", "unlike_pairs", "ends_unlike", "variety"] : List Str), NoAttr Z.K Z.CS f := tc.nS
  refine se_body (N := N_narrow_gaps) (n := 6) rfl e a q ?_
  show SE F H _ [.has (PBook Z ks rows ix), .no, .no, .no, .no, .no] _
  have hgi := gaps_in (ks := ks) (rows := rows) (ix := ix)
  have hgl := gaps_len (ks := ks) (rows := rows) (ix := ix)
  have hgS : ∀ env : List Sl, env[0]? = some (.has (PBook Z ks rows ix)) → EvR (tCall (Fs (S_gaps Z)) [] E0 (tCons (tVar 0) tNil)) env (D (.list ((gapsL ks rows ix).map tNs))) := fun env h0 => evr_call (Rs := [PBook Z ks rows ix]) (eva_cons (evr_var h0) eva_nil) ⟨ks, rows, ix, go, rfl, rfl⟩
  generalize gapsL ks rows ix = gs at hgi hgl hgS
  have n2 := go.n2
  unfold r_narrow_gaps
  refine sq_asg (R := D (.tuple (ks.map dI))) (evr_fld (fr := frS ks) (evr_fld (R := PStrand Z ks) (evr_var rfl) (by rfl) tc.clB (nB _ (by decide))) (by rfl) tc.clS (nS _ (by decide))) ?_
  unfold r_narrow_gaps4
  refine sq_own evn_nil ?_
  unfold r_narrow_gaps3
  refine se_seq (fun env => ∃ x y z, env = [.has (PBook Z ks rows ix), .has (D (.tuple (ks.map dI))), .own ((narrowL ks gs gs.length).map dN), x, y, z])
    (se_enum (hgS _ rfl) (fun i env => ∃ x y z, env = [.has (PBook Z ks rows ix), .has (D (.tuple (ks.map dI))), .own ((narrowL ks gs i).map dN), x, y, z]) ⟨_, _, _, rfl⟩ (fun i d env' hi iv => ?_) fun env' iv => ?_) ?_
  · obtain ⟨x, y, z, rfl⟩ := iv
    rw [List.getElem?_map] at hi
    cases er : gs[i]? with
    | none => rw [er] at hi; cases hi
    | some g =>
    rw [er] at hi
    have ed : tNs g = d := Option.some.inj hi
    subst ed
    have hil := (List.getElem?_eq_some_iff.mp er).1
    obtain ⟨gl, gb⟩ := hgi g (List.mem_of_getElem? er)
    have hgd : gs.getD i [] = g := by
      rw [getD_lt hil]
      exact (List.getElem?_eq_some_iff.mp er).2
    have hs : narrowL ks gs (i + 1) = if isN ks g = true then narrowL ks gs i ++ [i] else narrowL ks gs i := by
      unfold narrowL
      rw [List.range_succ, List.filter_append]
      by_cases c : isN ks g = true
      · rw [if_pos c, List.filter_cons_of_pos (by rw [hgd]; exact c)]; rfl
      · rw [if_neg c, List.filter_cons_of_neg (by rw [hgd]; exact c), List.filter_nil, List.append_nil]
    have hnl : (narrowL ks gs i).length ≤ i := by
      unfold narrowL
      exact Nat.le_trans (List.length_filter_le _ _) (by rw [List.length_range]; exact Nat.le_refl _)
    rw [hs]
    generalize narrowL ks gs i = nl at hnl
    unfold r_narrow_gaps1
    refine se_if (b := isN ks g) (evt_and (b := decide (2 < g.length)) (c := decide ((dset (g.map fun x => ks.getD x 0)).length = 2)) (evt_is (evt_gt (a := (g.length : Int)) (b := 2) (evr_lenTM (enc := dN) (evr_var rfl)) evr_int) ?_) fun _ => evt_is (evt_eqI (i := ((dset (g.map fun x => ks.getD x 0)).length : Int)) (j := 2) (Fz.evr_lenSc dN (fun x => ks.getD x 0) (xs := g) (evr_var rfl) (by omega) fun x hx => ?_) evr_int) ?_) (fun h => ?_) fun h => ?_
    · rw [Bool.eq_iff_iff, decide_eq_true_eq, decide_eq_true_eq]
      omega
    · exact evr_ixTI (evr_var rfl) (evr_var rfl) (getI (gb x hx))
    · rw [Bool.eq_iff_iff, decide_eq_true_eq, beq_iff_eq]
      omega
    · rw [if_pos h]
      refine se_app rfl (evr_var rfl) (by rw [List.length_map]; omega) ?_
      have em : nl.map dN ++ [dN i] = (nl ++ [i]).map dN := by
        rw [List.map_append]
        rfl
      show ∃ x y z, _ = _
      refine ⟨.has (D (dN i)), .has (D (tNs g)), z, ?_⟩
      rw [← em]
      rfl
    · rw [if_neg (by rw [h]; exact Bool.false_ne_true)]
      exact se_next ⟨_, _, _, rfl⟩
  · obtain ⟨x, y, z, rfl⟩ := iv
    rw [List.length_map]
    exact ⟨_, _, _, rfl⟩
  · rintro _ ⟨x, y, z, rfl⟩
    unfold r_narrow_gaps2
    exact se_freeze 2 rfl (se_ret (evr_var rfl))

def L_narrow_gaps : Nat := 3
abbrev P_narrow_gaps : List Str := ["book"]
theorem cal_narrow_gaps {P : Program} {w : World} {Z : Zt} {mg : Str → Option Value} {base : Heap} {f : Addr} {fd : FuncData} (F : Fun Z.K "narrow_gaps" "narrow_gaps" st_narrow_gaps f fd) (gf : mg "narrow_gaps" = some (.ref f)) (T : Tx0 mg) (C_gaps : Cal P w Z.K mg base "gaps" L_gaps P_gaps (Fs (S_gaps Z))) (tc : Tc Z) : Cal P w Z.K mg base "narrow_gaps" L_narrow_gaps P_narrow_gaps (Fs (S_narrow_gaps Z)) := by
  refine ⟨f, fd, gf, F.kp, F.binds fun _ _ _ _ _ _ us hl => match us, hl with | [_], _ => rfl, F.ok sc_narrow_gaps (fun vs H Q E h => Fs.len (S := S_narrow_gaps Z) (n := 1) (S_narrow_gaps_len Z) h) (fun cdv A outer s H vs Q E hr h => ⟨r_narrow_gaps Z w, PSs.nox ?_, pure_narrow_gaps tc h⟩)⟩
  have hu := hr.units
  have hu65 := room65 hr
  have hu64 := room64 hr
  exact (pss_cons (ps_set (i := 1) sc_narrow_gaps.nd rfl (Or.inr rfl) (pe_fld (pe_fld (pv 0) rfl) rfl)) (pss_cons (ps_set (i := 2) sc_narrow_gaps.nd rfl (Or.inl rfl) (pe_lst pa_nil)) (pss_cons (ps_for PassesOwn.never rfl (pi_enum rfl T.enumerate (pa_cons (pe_cal C_gaps (hr.mono (by decide)) (pa_cons (pv 0) pa_nil)) pa_nil)) (pg_tup rfl (pgs_cons (pg_name (i := 3) sc_narrow_gaps.nd rfl (Or.inl rfl)) (pgs_cons (pg_name (i := 4) sc_narrow_gaps.nd rfl (Or.inl rfl)) pgs_nil))) (pss_one (ps_if (PW.pt (pw_and (pt_cmpR op_gt (pe_callB call_len_seq (by rfl) T.len PySem.boot_len (pa_cons (pv 4) pa_nil)) pe_int (nomark _)) (pw_and1 (pt_cmpR op_eq (pe_callB cr_lenSO (by rfl) T.len PySem.boot_len (pa_cons (pe_scI (own := [("place", 5)]) (g := gName 5) (tt := tYes) rfl sc_narrow_gaps.nd (pi_tup (pv 4)) (blkOk_by (own := [("place", 5)]) (N := N_narrow_gaps) (sc := defScope st_narrow_gaps) (by decide +kernel)) (fun _ _ _ _ _ => pg_name (i := 5) sc_narrow_gaps.nd rfl (Or.inl rfl)) (fun _ _ _ _ _ => pts_nil) (fun _ _ _ _ _ => (pe_ix ix_tup (pv 1) (pv 5) (fun _ _ => rfl)))) pa_nil)) pe_int (nomark _))))) (pss_one (ps_expr (pe_bm PySem.F.plainAttrs_list PySem.F.slot_list_append PySem.F.type_list_append mt_append (pv 2) (pa_cons (pv 3) pa_nil)))) pss_nil))) (pss_one (ps_ret (pv 2))))))


/-! ### is_good -/
abbrev st_is_good : Stmt := topS 4
abbrev N_is_good : List Str := ["book"]
theorem sc_is_good : FnScope N_is_good ["book"] (defScope st_is_good) := ⟨rfl, rfl, rfl, by decide +kernel, rfl, by decide +kernel, by decide +kernel⟩
def r_is_good (Z : Zt) : TS := (tRet (tOp rEq (tCB (rLenS Z.K) (tCons (tCall (Fs (S_narrow_gaps Z)) [] E0 (tCons (tVar 0) tNil)) tNil)) (tC (.int 0))))


def goodL (ks : List Int) (rows : List (List Nat)) (ix : List Nat) : Bool := (gapsL ks rows ix).all fun g => !isN ks g
theorem goodL_iff (ks : List Int) (rows : List (List Nat)) (ix : List Nat) : ((narrowL ks (gapsL ks rows ix) (gapsL ks rows ix).length).length == 0) = goodL ks rows ix := by
  unfold goodL narrowL
  generalize gapsL ks rows ix = gs
  rw [Bool.eq_iff_iff, beq_iff_eq, List.length_eq_zero_iff, List.filter_eq_nil_iff, List.all_eq_true]
  constructor
  · intro h g hg
    obtain ⟨i, hi⟩ := List.mem_iff_getElem?.mp hg
    have hil := (List.getElem?_eq_some_iff.mp hi).1
    have := h i (List.mem_range.mpr hil)
    rw [getD_lt hil, (List.getElem?_eq_some_iff.mp hi).2] at this
    simpa using this
  · intro h i hi
    have hil := List.mem_range.mp hi
    rw [getD_lt hil]
    have := h _ (List.getElem_mem hil)
    simpa using this
def S_is_good (Z : Zt) (Rs : List Pr) (R : Pr) : Prop := ∃ (ks : List Int) (rows : List (List Nat)) (ix : List Nat), GapOk ks rows ix ∧ Rs = [PBook Z ks rows ix] ∧ R = D (.bool (goodL ks rows ix))
theorem S_is_good_len (Z : Zt) (Rs : List Pr) (R : Pr) (h : S_is_good Z Rs R) : Rs.length = 1 := by
  obtain ⟨_, _, _, _, rfl, _⟩ := h
  rfl
theorem pure_is_good {Z : Zt} (tc : Tc Z) {vs : List V} {H : Hp} {Q : VK} {E : XK} (h : Fs (S_is_good Z) vs H Q E) : r_is_good Z { nx := fun _ H' => Q .non H', rt := Q } (L2.start N_is_good vs) H := by
  obtain ⟨Rs, R, F, ⟨ks, rows, ix, go, rfl, rfl⟩, e, a, q⟩ := h
  refine se_body (N := N_is_good) (n := 1) rfl e a q ?_
  show SE F H _ [.has (PBook Z ks rows ix)] _
  unfold r_is_good
  refine se_ret (evr_is (evr_eqI (j := 0) (evr_lenM (enc := dN) (evr_call (Rs := [PBook Z ks rows ix]) (eva_cons (evr_var rfl) eva_nil) ⟨ks, rows, ix, go, rfl, rfl⟩)) evr_int) ?_)
  rw [← goodL_iff, ← nbeq]
  rfl

def L_is_good : Nat := 4
abbrev P_is_good : List Str := ["book"]
theorem cal_is_good {P : Program} {w : World} {Z : Zt} {mg : Str → Option Value} {base : Heap} {f : Addr} {fd : FuncData} (F : Fun Z.K "is_good" "is_good" st_is_good f fd) (gf : mg "is_good" = some (.ref f)) (T : Tx0 mg) (C_narrow_gaps : Cal P w Z.K mg base "narrow_gaps" L_narrow_gaps P_narrow_gaps (Fs (S_narrow_gaps Z))) (tc : Tc Z) : Cal P w Z.K mg base "is_good" L_is_good P_is_good (Fs (S_is_good Z)) := by
  refine ⟨f, fd, gf, F.kp, F.binds fun _ _ _ _ _ _ us hl => match us, hl with | [_], _ => rfl, F.ok sc_is_good (fun vs H Q E h => Fs.len (S := S_is_good Z) (n := 1) (S_is_good_len Z) h) (fun cdv A outer s H vs Q E hr h => ⟨r_is_good Z, PSs.nox ?_, pure_is_good tc h⟩)⟩
  have hu := hr.units
  have hu65 := room65 hr
  have hu64 := room64 hr
  exact (pss_one (ps_ret (pe_cmpR op_eq (pe_callB call_len_seq (by rfl) T.len PySem.boot_len (pa_cons (pe_cal C_narrow_gaps (hr.mono (by decide)) (pa_cons (pv 0) pa_nil)) pa_nil)) pe_int (nomark _))))
theorem calk_is_good {P : Program} {w : World} {Z : Zt} {mg : Str → Option Value} {base : Heap} {f : Addr} {fd : FuncData} (F : Fun Z.K "is_good" "is_good" st_is_good f fd) (gf : mg "is_good" = some (.ref f)) (T : Tx0 mg) (C_narrow_gaps : Cal P w Z.K mg base "narrow_gaps" L_narrow_gaps P_narrow_gaps (Fs (S_narrow_gaps Z))) (tc : Tc Z) : Calk P w Z.K mg base "is_good" "book" L_is_good (Fs (S_is_good Z)) := by
  refine ⟨f, fd, gf, F.kp, fun s w => ?_, F.ok sc_is_good (fun vs H Q E h => Fs.len (S := S_is_good Z) (n := 1) (S_is_good_len Z) h) (fun cdv A outer s H vs Q E hr h => ⟨r_is_good Z, PSs.nox ?_, pure_is_good tc h⟩)⟩
  · obtain ⟨oc, od, kV, doc, pm, an, cdv, ct, osl, rfl, lk, hcd⟩ := F.ex
    exact .of_eq rfl
  have hu := hr.units
  exact (pss_one (ps_ret (pe_cmpR op_eq (pe_callB call_len_seq (by rfl) T.len PySem.boot_len (pa_cons (pe_cal C_narrow_gaps (hr.mono (by decide)) (pa_cons (pv 0) pa_nil)) pa_nil)) pe_int (nomark _))))


end Bm

/-! text BmD17 -/
set_option Elab.async false
set_option linter.all false
set_option maxRecDepth 100000
set_option maxHeartbeats 4000000
namespace Bm
open PySem PySem.Spec PyProof.Rows L2 Fz ClX PpSet
/-! ### _law_good -/
abbrev st_law_good : Stmt := topS 37
abbrev N_law_good : List Str := ["_law_own", "_law_rows", "_law_way", "_law_passed", "_law_told", "e", "_law_members"]
theorem sc_law_good : FnScope N_law_good ["_law_own", "_law_rows", "_law_way"] (defScope st_law_good) := ⟨rfl, rfl, rfl, by decide +kernel, rfl, by decide +kernel, by decide +kernel⟩
def r_law_good1 (Z : Zt) : TS := (tRet (tTup (tCons (tC (.str "ok")) (tCons (tCall (Fs (S_is_good Z)) [] E0 (tCons (tVar 4) tNil)) tNil))))
def r_law_good2 (Z : Zt) : TS := (tSeq (tIfS (tTest (tOp rEq (tOp xMod (tVar 2) (tC (.int 16))) (tC (.int 5)))) (tRet (tTup (tCons (tC (.str "ok")) (tCons (tCall1 (Fs (S_is_good Z)) E0 (tVar 4)) tNil)))) tNext) (r_law_good1 Z))
def r_law_good3 (Z : Zt) : TS := (tSeq (fun D σ H => tAsg (tMakeS Z.CB (Fi Z.CB Z.CE (S_Binit Z)) (WE (wAs Z.K (.ref Z.CE) 5 (tsBad Z.CE 5) (fun _ _ _ _ => False) D)) (tCons (tVar 0) (tCons (tVar 3) tNil))) (gName 4) D σ H) (r_law_good2 Z))
def r_law_good4 (Z : Zt) : TS := (tSeq (tIfS (tTest (tOp rEq (tOp xMod (tVar 2) (tC (.int 2))) (tC (.int 0)))) (tAsg (tLc (iList Z.K (tVar 1)) (gName 6) tYes (tCB (xList Z.K) (tCons (tVar 6) tNil)) [6]) (gName 3)) tNext) (r_law_good3 Z))
def r_law_good (Z : Zt) : TS := (tSeq (tAsg (tLc (iList Z.K (tVar 1)) (gName 6) tYes (tThen (tVar 6) (kTup Z.K)) [6]) (gName 3)) (r_law_good4 Z))


/-- what the law's try gives: ('ok', g) where the rules hold, else ('BadBook', k) -/
def PGood (ok : Prop) (g : Bool) : Pr := ⟨fun v F => (ok ∧ Dn F v (.tuple [.str "ok", .bool g])) ∨ (¬ok ∧ ∃ k : Int, Dn F v (.tuple [.str "BadBook", .int k])), fun e h => h.imp (fun ⟨a, b⟩ => ⟨a, Dn.up e _ _ b⟩) fun ⟨a, k, b⟩ => ⟨a, k, Dn.up e _ _ b⟩⟩
theorem ixRow_b {N i : Nat} (hi : i < N) : ∀ (row ix : List Nat), (∀ x ∈ ix, x < N) → ∀ x ∈ ixRow ix i row, x < N
  | [], _, h => h
  | b :: row, ix, h => by
    show ∀ x ∈ ixRow (ix.set b i) i row, x < N
    refine ixRow_b hi row _ fun x hx => ?_
    rcases List.mem_or_eq_of_mem_set hx with z | z
    · exact h x z
    · rw [z]; exact hi
theorem ixGo_b {N : Nat} : ∀ (rows : List (List Nat)) (ix : List Nat) (i : Nat), i + rows.length ≤ N → (∀ x ∈ ix, x < N) → ∀ x ∈ ixGo ix i rows, x < N
  | [], _, _, _, h => h
  | r :: rows, ix, i, hl, h => by
    rw [List.length_cons] at hl
    show ∀ x ∈ ixGo (ixRow ix i r) (i + 1) rows, x < N
    exact ixGo_b rows _ _ (by omega) (ixRow_b (by omega) r ix h)
theorem gapOk_of {ks : List Int} {rows : List (List Nat)} (h2 : 2 ≤ ks.length) (hn : ks.length ≤ 1000) (ro : RowsOk ks.length rows) : GapOk ks rows (ixOf ks.length rows) where
  n1 := h2
  n2 := hn
  ixl := ixOf_len
  ixb := by
    have hl : 0 < rows.length := by
      cases rows with
      | nil =>
        have := ro.flat.length_eq
        rw [List.length_range] at this
        simp at this
        omega
      | cons _ _ => simp
    exact ixGo_b rows _ 0 (by omega) fun x hx => by rw [List.eq_of_mem_replicate hx]; exact hl
  ne := ro.ne
  rl := ro.len
def S_law_good (Z : Zt) (Rs : List Pr) (R : Pr) : Prop := ∃ (ks : List Int) (rows : List (List Nat)) (way : Nat), 2 ≤ ks.length ∧ ks.length ≤ 1000 ∧ RowsOk ks.length rows ∧ Rs = [PStrand Z ks, D (dRs rows), D (dN way)] ∧
  R = PGood (RulesP ks (ixOf ks.length rows)) (goodL ks rows (ixOf ks.length rows))
theorem S_law_good_len (Z : Zt) (Rs : List Pr) (R : Pr) (h : S_law_good Z Rs R) : Rs.length = 3 := by
  obtain ⟨_, _, _, _, _, _, rfl, _⟩ := h
  rfl
theorem pure_law_good {Z : Zt} (tc : Tc Z) {vs : List V} {H : Hp} {Q : VK} {E : XK} (h : Fs (S_law_good Z) vs H Q E) : r_law_good Z { nx := fun _ H' => Q .non H', rt := Q } (L2.start N_law_good vs) H := by
  obtain ⟨Rs, R, F, ⟨ks, rows, way, h2, hn, ro, rfl, rfl⟩, e, a, q⟩ := h
  refine se_body (N := N_law_good) (n := 7) rfl e a q ?_
  show SE F H _ [.has (PStrand Z ks), .has (D (dRs rows)), .has (D (dN way)), .no, .no, .no, .no] _
  have hl := ro.len
  unfold r_law_good
  refine sq_asg (R := D (.list (rows.map tNs))) (EvN.r (evn_lcLy tNs tNs (xs := rows) (evr_var rfl) (by omega) fun r hr => evr_tupleT (evr_var rfl))) ?_
  unfold r_law_good4
  refine se_seq (fun env => ∃ enc : List Nat → PyData, (enc = tNs ∨ enc = dNs) ∧ env = [.has (PStrand Z ks), .has (D (dRs rows)), .has (D (dN way)), .has (D (.list (rows.map enc))), .no, .no, .no])
    (se_if (evt_eqN (n := 0) (evr_modN (n := 2) (evr_var rfl) evr_int (by omega)) evr_int) (fun _ => ?_) fun _ => se_next ⟨tNs, .inl rfl, rfl⟩) ?_
  · exact se_asg (R := D (.list (rows.map dNs))) (EvN.r (evn_lcLy tNs dNs (xs := rows) (evr_var rfl) (by omega) fun r hr => EvN.r (evn_listT (evr_var rfl)))) ⟨dNs, .inr rfl, rfl⟩
  rintro _ ⟨enc, henc, rfl⟩
  unfold r_law_good3
  have gk := gapOk_of h2 hn ro
  refine se_seq (fun env => RulesP ks (ixOf ks.length rows) ∧ env = [.has (PStrand Z ks), .has (D (dRs rows)), .has (D (dN way)), .has (D (.list (rows.map enc))), .has (PBook Z ks rows (ixOf ks.length rows)), .no, .no])
    (se_try (S := S_Binit Z) (Rs := [PStrand Z ks, D (.list (rows.map enc))]) (ok := RulesP ks (ixOf ks.length rows)) (fr := frB Z ks rows (ixOf ks.length rows)) (eva_cons (evr_var rfl) (eva_cons (evr_var rfl) eva_nil)) ⟨ks, rows, enc, henc, hn, ro, rfl, rfl, rfl⟩ tc.te (show 5 < 7 by decide) (fun k => ⟨k, rfl⟩) fun no k v F d => .inr ⟨no, k, d⟩) ?_
  rintro _ ⟨rok, rfl⟩
  generalize ixOf ks.length rows = ix at gk rok
  have fin : ∀ {te : TE}, EvR te [.has (PStrand Z ks), .has (D (dRs rows)), .has (D (dN way)), .has (D (.list (rows.map enc))), .has (PBook Z ks rows ix), .no, .no] (D (.bool (goodL ks rows ix))) →
      EvR (tTup (tCons (tC (.str "ok")) (tCons te tNil))) [.has (PStrand Z ks), .has (D (dRs rows)), .has (D (dN way)), .has (D (.list (rows.map enc))), .has (PBook Z ks rows ix), .no, .no] (PGood (RulesP ks ix) (goodL ks rows ix)) := fun h =>
    (evr_tup2 evr_str h).imp fun v F d => .inl ⟨rok, d⟩
  unfold r_law_good2
  refine sq_ifx (evt_eqN (n := 5) (evr_modN (n := 16) (evr_var rfl) evr_int (by omega)) evr_int) (fun _ => se_ret (fin (evr_call1 (R1 := PBook Z ks rows ix) (evr_var rfl) ⟨ks, rows, ix, gk, rfl, rfl⟩))) fun _ => ?_
  unfold r_law_good1
  exact se_ret (fin (evr_call (Rs := [PBook Z ks rows ix]) (eva_cons (evr_var rfl) eva_nil) ⟨ks, rows, ix, gk, rfl, rfl⟩))

def L_law_good : Nat := 5
abbrev P_law_good : List Str := ["_law_own", "_law_rows", "_law_way"]
theorem cal_law_good {P : Program} {w : World} {Z : Zt} {mg : Str → Option Value} {base : Heap} {f : Addr} {fd : FuncData} (F : Fun Z.K "_law_good" "_law_good" st_law_good f fd) (gf : mg "_law_good" = some (.ref f)) (T : Tx0 mg) (C_Binit : Cali (L2.CX P w) P w Z.K mg base "Book" Z.CB L_Binit P_Binit (Fi Z.CB Z.CE (S_Binit Z))) (C_is_good : Cal P w Z.K mg base "is_good" L_is_good P_is_good (Fs (S_is_good Z))) (K_is_good : Calk P w Z.K mg base "is_good" "book" L_is_good (Fs (S_is_good Z))) (tc : Tc Z) {fI : Addr} (B : PySem.BadX.BadTxt P Z.K mg Z.CE fI) : Cal P w Z.K mg base "_law_good" L_law_good P_law_good (Fs (S_law_good Z)) := by
  refine ⟨f, fd, gf, F.kp, F.binds fun _ _ _ _ _ _ us hl => match us, hl with | [_, _, _], _ => rfl, F.ok sc_law_good (fun vs H Q E h => Fs.len (S := S_law_good Z) (n := 3) (S_law_good_len Z) h) (fun cdv A outer s H vs Q E hr h => ⟨r_law_good Z, PSs.nox ?_, pure_law_good tc h⟩)⟩
  have hu := hr.units
  have hu65 := room65 hr
  have hu64 := room64 hr
  exact (pss_cons (ps_setLc (i := 3) (own := [("_law_members", 6)]) (g := gName 6) (tt := tYes) rfl sc_law_good.nd rfl rfl (sw_true rfl rfl rfl (by decide +kernel)) (pi_list (pv 1)) (blkOk_by (own := [("_law_members", 6)]) (N := N_law_good) (sc := defScope st_law_good) (by decide +kernel)) (fun _ _ _ _ _ => pg_name (i := 6) sc_law_good.nd rfl (Or.inl rfl)) (fun _ _ _ _ _ => pts_nil) (fun _ _ _ _ _ => (pe_tupleOf rfl T.tuple (pv 6)))) (pss_cons (ps_if (pt_cmpR op_eq (pe_op op_mod (pv 2) pe_int) pe_int (nomark _)) (pss_one (ps_setLc (i := 3) (own := [("_law_members", 6)]) (g := gName 6) (tt := tYes) rfl sc_law_good.nd rfl rfl (sw_true rfl rfl rfl (by decide +kernel)) (pi_list (pv 1)) (blkOk_by (own := [("_law_members", 6)]) (N := N_law_good) (sc := defScope st_law_good) (by decide +kernel)) (fun _ _ _ _ _ => pg_name (i := 6) sc_law_good.nd rfl (Or.inl rfl)) (fun _ _ _ _ _ => pts_nil) (fun _ _ _ _ _ => (pe_callTy call_list_of (by rfl) T.list (by decide +kernel) (pa_cons (pv 6) pa_nil))))) pss_nil) (pss_cons (ps_try_as (i := 5) (tb := fun W => tAsg (tMakeS Z.CB (Fi Z.CB Z.CE (S_Binit Z)) (WE W) (tCons (tVar 0) (tCons (tVar 3) tNil))) (gName 4)) (ts := tsBad Z.CE 5) (Wout := fun _ _ _ _ => False) rfl rfl sc_law_good.nd rfl rfl ⟨rfl, by decide, Or.inl B.gC⟩ takes0 (fun W pn xe tk _ => pss_one (ps_set (i := 4) sc_law_good.nd rfl (Or.inl rfl) (by exact (pe_caliS C_Binit tk (hr.mono (by decide)) (pa_cons (pv 0) (pa_cons (pv 3) pa_nil)))))) (fun a oe cls d pn hz hf => pss_one (ps_ret (by exact (pe_tup (pa_cons pe_str (pa_cons (pe_byBad B hz hf (pv 5)) pa_nil))))))) (pss_cons (ps_if (pt_cmpR op_eq (pe_op op_mod (pv 2) pe_int) pe_int (nomark _)) (pss_one (ps_ret (pe_tup (pa_cons pe_str (pa_cons (pe_calk K_is_good (hr.mono (by decide)) (pv 4)) pa_nil))))) pss_nil) (pss_one (ps_ret (pe_tup (pa_cons pe_str (pa_cons (pe_cal C_is_good (hr.mono (by decide)) (pa_cons (pv 4) pa_nil)) pa_nil)))))))))


/-! ### _law_holds -/
abbrev st_law_holds : Stmt := topS 38
abbrev N_law_holds : List Str := ["_law_own", "_law_rows", "_law_had_here", "_law_way", "_law_told"]
theorem sc_law_holds : FnScope N_law_holds ["_law_own", "_law_rows", "_law_had_here", "_law_way"] (defScope st_law_holds) := ⟨rfl, rfl, rfl, by decide +kernel, rfl, by decide +kernel, by decide +kernel⟩
def r_law_holds1 (Z : Zt) : TS := (tRet (tOrV (tOp rEq (tOp (rIxT Z.K) (tVar 4) (tC (.int 0))) (tC (.str "BadBook"))) (tOp rIsB (tOp (rIxT Z.K) (tVar 4) (tC (.int 1))) (tC (.bl false)))))
def r_law_holds2 (Z : Zt) : TS := (tSeq (tIfS (tTest (tOp (rInD Z.K) (tVar 1) (tVar 2))) (tRet (tAndV (tOp rEq (tOp (rIxT Z.K) (tVar 4) (tC (.int 0))) (tC (.str "ok"))) (tOp rIsB (tOp (rIxT Z.K) (tVar 4) (tC (.int 1))) (tC (.bl true))))) tNext) (r_law_holds1 Z))
def r_law_holds (Z : Zt) : TS := (tSeq (tAsg (tCall (Fs (S_law_good Z)) [] E0 (tCons (tVar 0) (tCons (tVar 1) (tCons (tVar 3) tNil)))) (gName 4)) (r_law_holds2 Z))


def S_law_holds (Z : Zt) (Rs : List Pr) (R : Pr) : Prop := ∃ (ks : List Int) (rows : List (List Nat)) (hd : List (List (List Nat))) (way : Nat), 2 ≤ ks.length ∧ ks.length ≤ 1000 ∧ RowsOk ks.length rows ∧
  (rows ∈ hd ↔ RulesP ks (ixOf ks.length rows) ∧ goodL ks rows (ixOf ks.length rows) = true) ∧ Rs = [PStrand Z ks, D (dRs rows), D (.list (hd.map dRs)), D (dN way)] ∧ R = D (.bool true)
theorem S_law_holds_len (Z : Zt) (Rs : List Pr) (R : Pr) (h : S_law_holds Z Rs R) : Rs.length = 4 := by
  obtain ⟨_, _, _, _, _, _, _, _, rfl, _⟩ := h
  rfl
theorem pure_law_holds {Z : Zt} {vs : List V} {H : Hp} {Q : VK} {E : XK} (h : Fs (S_law_holds Z) vs H Q E) : r_law_holds Z { nx := fun _ H' => Q .non H', rt := Q } (L2.start N_law_holds vs) H := by
  obtain ⟨Rs, R, F, ⟨ks, rows, hd, way, h2, hn, ro, hm, rfl, rfl⟩, e, a, q⟩ := h
  refine se_body (N := N_law_holds) (n := 5) rfl e a q ?_
  show SE F H _ [.has (PStrand Z ks), .has (D (dRs rows)), .has (D (.list (hd.map dRs))), .has (D (dN way)), .no] _
  unfold r_law_holds
  refine sq_asg (R := PGood (RulesP ks (ixOf ks.length rows)) (goodL ks rows (ixOf ks.length rows))) (evr_call (Rs := [PStrand Z ks, D (dRs rows), D (dN way)]) (eva_cons (evr_var rfl) (eva_cons (evr_var rfl) (eva_cons (evr_var rfl) eva_nil))) ⟨ks, rows, way, h2, hn, ro, rfl, rfl⟩) ?_
  generalize goodL ks rows (ixOf ks.length rows) = g at hm
  generalize ixOf ks.length rows = ix at hm
  unfold r_law_holds2
  by_cases hr : RulesP ks ix
  · refine se_weak (R' := D (.tuple [.str "ok", .bool g])) 4 rfl (fun v F r => ?_) ?_
    · rcases r with ⟨_, d⟩ | ⟨no, _⟩
      · exact d
      · exact absurd hr no
    · refine sq_ifx (evt_of (evr_inH (evr_var rfl) (evr_var rfl))) (fun h => ?_) fun h => ?_
      · have hg := (hm.mp (of_decide_eq_true h)).2
        subst hg
        exact se_ret (evr_is (evr_andV (evr_eqS (evr_ixT (i := 0) (evr_var rfl) evr_int rfl) evr_str) fun _ => evr_isB (evr_ixT (i := 1) (evr_var rfl) evr_int rfl) evr_bl) (congrArg PyData.bool (by decide)))
      · have hg : g = false := by
          cases g with
          | false => rfl
          | true => exact absurd (hm.mpr ⟨hr, rfl⟩) (of_decide_eq_false h)
        subst hg
        unfold r_law_holds1
        exact se_ret (evr_is (evr_orV (evr_eqS (evr_ixT (i := 0) (evr_var rfl) evr_int rfl) evr_str) fun _ => evr_isB (evr_ixT (i := 1) (evr_var rfl) evr_int rfl) evr_bl) (congrArg PyData.bool (by decide)))
  · refine se_weak (R' := ExP (fun _ : Int => True) fun k => D (.tuple [.str "BadBook", .int k])) 4 rfl (fun v F r => ?_) (se_open 4 rfl fun k _ => ?_)
    · rcases r with ⟨y, _⟩ | ⟨_, k, d⟩
      · exact absurd y hr
      · exact ⟨k, True.intro, d⟩
    · refine sq_ifx (evt_of (evr_inH (evr_var rfl) (evr_var rfl))) (fun h => absurd (hm.mp (of_decide_eq_true h)).1 hr) fun h => ?_
      unfold r_law_holds1
      exact se_ret (evr_is (evr_orV (b := true) (c := true) (evr_is (evr_eqS (evr_ixT (i := 0) (evr_var rfl) evr_int rfl) evr_str) (congrArg PyData.bool (by decide))) fun z => by cases z) rfl)

def L_law_holds : Nat := 6
abbrev P_law_holds : List Str := ["_law_own", "_law_rows", "_law_had_here", "_law_way"]
theorem cal_law_holds {P : Program} {w : World} {Z : Zt} {mg : Str → Option Value} {base : Heap} {f : Addr} {fd : FuncData} (F : Fun Z.K "_law_holds" "_law_holds" st_law_holds f fd) (gf : mg "_law_holds" = some (.ref f)) (T : Tx0 mg) (C_law_good : Cal P w Z.K mg base "_law_good" L_law_good P_law_good (Fs (S_law_good Z))) : Cal P w Z.K mg base "_law_holds" L_law_holds P_law_holds (Fs (S_law_holds Z)) := by
  refine ⟨f, fd, gf, F.kp, F.binds fun _ _ _ _ _ _ us hl => match us, hl with | [_, _, _, _], _ => rfl, F.ok sc_law_holds (fun vs H Q E h => Fs.len (S := S_law_holds Z) (n := 4) (S_law_holds_len Z) h) (fun cdv A outer s H vs Q E hr h => ⟨r_law_holds Z, PSs.nox ?_, pure_law_holds h⟩)⟩
  have hu := hr.units
  have hu65 := room65 hr
  have hu64 := room64 hr
  exact (pss_cons (ps_set (i := 4) sc_law_holds.nd rfl (Or.inl rfl) (pe_cal C_law_good (hr.mono (by decide)) (pa_cons (pv 0) (pa_cons (pv 1) (pa_cons (pv 3) pa_nil))))) (pss_cons (ps_if (pt_cmpR (op_inD hu65) (pv 1) (pv 2) (by rfl)) (pss_one (ps_ret (pe_and (pe_cmpR op_eq (pe_ix ix_tup (pv 4) pe_int (fun _ _ => rfl)) pe_str (nomark _)) (pe_one (pe_cmpR op_isBl (pe_ix ix_tup (pv 4) pe_int (fun _ _ => rfl)) pe_bl (nomark _)))))) pss_nil) (pss_one (ps_ret (pe_or (pe_cmpR op_eq (pe_ix ix_tup (pv 4) pe_int (fun _ _ => rfl)) pe_str (nomark _)) (pe_one (pe_cmpR op_isBl (pe_ix ix_tup (pv 4) pe_int (fun _ _ => rfl)) pe_bl (nomark _))))))))


end Bm

/-! text BmD18 -/
set_option Elab.async false
set_option linter.all false
set_option maxRecDepth 100000
set_option maxHeartbeats 4000000
namespace Bm
open PySem PySem.Spec PyProof.Rows L2 Fz ClX PpSet
/-! ### law -/
abbrev st_law : Stmt := topS 39
abbrev N_law : List Str := ["_law_script", "_law_width", "_law_most", "_law_kinds_here", "_law_own", "_law_had_here", "_law_drawn_here", "_law_asked", "_law_k", "_law_rows"]
theorem sc_law : FnScope N_law ["_law_script"] (defScope st_law) := ⟨rfl, rfl, rfl, by decide +kernel, rfl, by decide +kernel, by decide +kernel⟩
def r_law1 (Z : Zt) : TS := (tIfS (tNot (tB (tCall (Fs (S_law_holds Z)) [] E0 (tCons (tVar 4) (tCons (tOp (rIxL Z.K) (tVar 7) (tVar 8)) (tCons (tVar 5) (tCons (tOp xAdd (tOp (rIxL Z.K) (tVar 1) (tC (.int 1))) (tVar 8)) tNil))))))) (tRet (tC (.bl false))) tNext)
def r_law2 (Z : Zt) : TS := (tIfS (tNot (tB (tCall (Fs (S_law_holds Z)) [] E0 (tCons (tVar 4) (tCons (tVar 9) (tCons (tVar 5) (tCons (tOp (rIxL Z.K) (tVar 1) (tC (.int 1))) tNil))))))) (tRet (tC (.bl false))) tNext)
def r_law3 (Z : Zt) : TS := (tRet (tC (.bl true)))
def r_law4 (Z : Zt) : TS := (tSeq (tFor (iList Z.K (tRevL Z.K (tVar 6))) (gName 9) (r_law2 Z)) (r_law3 Z))
def r_law5 (Z : Zt) : TS := (tSeq (tFor (iRng1 (tCons (tCB (rLenS Z.K) (tCons (tVar 7) tNil)) tNil)) (gName 8) (r_law1 Z)) (r_law4 Z))
def r_law6 (Z : Zt) : TS := (tSeq (tAsg (tOp rCat (tVar 5) (tVar 6)) (gName 7)) (r_law5 Z))
def r_law7 (Z : Zt) : TS := (tSeq (tAsg (tLc (iRng1 (tCons (tC (.int 8)) tNil)) (gName 8) tYes (tCall (Fs (S_law_drawn Z)) [] E0 (tCons (tVar 3) (tCons (tVar 5) (tCons (tCall (Fs (S_law_cell Z)) [] E0 (tCons (tVar 0) (tCons (tOp xAdd (tC (.int 2)) (tVar 8)) tNil))) tNil)))) [8]) (gName 6)) (r_law6 Z))
def r_law8 (Z : Zt) : TS := (tSeq (tAsg (tCall (Fs (S_law_had Z)) [] E0 (tCons (tVar 3) tNil)) (gName 5)) (r_law7 Z))
def r_law9 (Z : Zt) : TS := (tSeq (tAsg (tMake Z.CS (Fi Z.CS Z.CE (S_Sinit Z)) [] E0 (tCons (tCB (xList Z.K) (tCons (tVar 3) tNil)) tNil)) (gName 4)) (r_law8 Z))
def r_law10 (Z : Zt) : TS := (tSeq (tAsg (tCall (Fs (S_law_strand_kinds Z)) [] E0 (tCons (tVar 0) (tCons (tVar 2) tNil))) (gName 3)) (r_law9 Z))
def r_law11 (Z : Zt) : TS := (tSeq (tIfS (tTest (tOp rEq (tOp xMod (tOp (rIxL Z.K) (tVar 1) (tC (.int 0))) (tC (.int 8))) (tC (.int 1)))) (tAsg (tC (.int 7)) (gName 2)) tNext) (r_law10 Z))
def r_law12 (Z : Zt) : TS := (tSeq (tAsg (tC (.int 6)) (gName 2)) (r_law11 Z))
def r_law (Z : Zt) : TS := (tSeq (tAsg (tCall (Fs (S_law_draws Z)) [] E0 (tCons (tCall (Fs (S_law_cell Z)) [] E0 (tCons (tVar 0) (tCons (tC (.int 10)) tNil))) (tCons (tC (.int 2)) (tCons (tC (.int 1000)) tNil)))) (gName 1)) (r_law12 Z))


/-- the plain law: a grouping is had exactly if it makes a good book; and what the law hands in is in order -/
def MainLaw : Prop := ∀ ks : List Int, 2 ≤ ks.length → ks.length ≤ 7 → ∀ l : List Nat, l.length = ks.length →
  RowsOk ks.length (parts l) ∧ (parts l ∈ hadL ks ↔ RulesP ks (ixOf ks.length (parts l)) ∧ goodL ks (parts l) (ixOf ks.length (parts l)) = true)
theorem had_fold {ks : List Int} : ∀ (runs : List (List Nat)) (acc : List (List (List Nat))), (∀ r ∈ acc, ∃ l : List Nat, l.length = ks.length ∧ r = parts l) → ∀ r ∈ runs.foldl (hstep ks) acc, ∃ l : List Nat, l.length = ks.length ∧ r = parts l
  | [], _, h => h
  | run :: runs, acc, h => by
    rw [List.foldl_cons]
    refine had_fold runs _ fun r hr => ?_
    unfold hstep at hr
    split at hr
    · exact h r hr
    · rcases List.mem_append.mp hr with z | z
      · exact h r z
      · rw [List.mem_singleton.mp z]
        exact ⟨lab (eqo ks) ks.length (walkPairs ks.length run), lab_len, rfl⟩
theorem had_parts {ks : List Int} : ∀ r ∈ hadL ks, ∃ l : List Nat, l.length = ks.length ∧ r = parts l := had_fold _ _ (by simp)
theorem hstep_ne {ks : List Int} {acc : List (List (List Nat))} {run : List Nat} : hstep ks acc run ≠ [] := by
  unfold hstep
  split
  · rename_i h
    intro z
    rw [z] at h
    cases h
  · simp
theorem hfold_ne {ks : List Int} : ∀ (runs : List (List Nat)) (acc : List (List (List Nat))), acc ≠ [] → runs.foldl (hstep ks) acc ≠ []
  | [], _, h => h
  | run :: runs, acc, _ => by
    rw [List.foldl_cons]
    exact hfold_ne runs _ hstep_ne
theorem had_ne {ks : List Int} (h2 : 2 ≤ ks.length) (h7 : ks.length ≤ 7) : hadL ks ≠ [] := by
  unfold hadL
  have h : ∀ n < 8, 2 ≤ n → orders (itemsOf n) ≠ [] := by decide +kernel
  cases q : orders (itemsOf ks.length) with
  | nil => exact absurd q (h _ (by omega) h2)
  | cons run runs =>
    rw [List.foldl_cons]
    exact hfold_ne runs _ hstep_ne
theorem hfold_len {ks : List Int} : ∀ (runs : List (List Nat)) (acc : List (List (List Nat))), (runs.foldl (hstep ks) acc).length ≤ acc.length + runs.length
  | [], acc => by simp
  | run :: runs, acc => by
    rw [List.foldl_cons]
    have h1 := hfold_len (ks := ks) runs (hstep ks acc run)
    have h2 : (hstep ks acc run).length ≤ acc.length + 1 := by
      unfold hstep
      split
      · omega
      · simp
    rw [List.length_cons]
    omega
theorem had_len {ks : List Int} (h2 : 2 ≤ ks.length) (h7 : ks.length ≤ 7) : (hadL ks).length ≤ 1000 := by
  have h1 := hfold_len (ks := ks) (orders (itemsOf ks.length)) []
  have h3 := (items_ok ks.length h2 h7).2 _ (Nat.le_refl _)
  rw [List.take_length] at h3
  rw [List.length_nil] at h1
  unfold hadL
  omega
def S_law (Z : Zt) (Rs : List Pr) (R : Pr) : Prop := ∃ ns : List Int, MainLaw ∧ Rs = [Scr Z.K ns] ∧ R = D (.bool true)
theorem S_law_len (Z : Zt) (Rs : List Pr) (R : Pr) (h : S_law Z Rs R) : Rs.length = 1 := by
  obtain ⟨_, _, rfl, _⟩ := h
  rfl
theorem pure_law {Z : Zt} {vs : List V} {H : Hp} {Q : VK} {E : XK} (h : Fs (S_law Z) vs H Q E) : r_law Z { nx := fun _ H' => Q .non H', rt := Q } (L2.start N_law vs) H := by
  obtain ⟨Rs, R, F, ⟨ns, main, rfl, rfl⟩, e, a, q⟩ := h
  refine se_body (N := N_law) (n := 10) rfl e a q ?_
  show SE F H _ [.has (Scr Z.K ns), .no, .no, .no, .no, .no, .no, .no, .no, .no] _
  unfold r_law
  refine sq_asg (R := PD 2 1000) (evr_call (Rs := [D (dI _), D (dN 2), D (dN 1000)]) (eva_cons (evr_call (Rs := [Scr Z.K ns, D (dN 10)]) (eva_cons (evr_var rfl) (eva_cons evr_int eva_nil)) ⟨ns, 10, rfl, rfl⟩) (eva_cons evr_int (eva_cons evr_int eva_nil))) ⟨_, 2, 1000, by omega, by omega, by omega, rfl, rfl⟩) ?_
  refine se_open 1 rfl fun wd hwd => ?_
  obtain ⟨wl, _⟩ := hwd
  have hw : ∀ i, i < 2 → wd[i]? = some (wd.getD i 0) := fun i hi => getN (by omega)
  unfold r_law12
  refine sq_asg (R := D (dN 6)) evr_int ?_
  unfold r_law11
  refine se_seq (fun env => ∃ most, 6 ≤ most ∧ most ≤ 7 ∧ env = [.has (Scr Z.K ns), .has (D (dNs wd)), .has (D (dN most)), .no, .no, .no, .no, .no, .no, .no])
    (se_if (evt_eqN (n := 1) (evr_modN (n := 8) (evr_ixN (i := 0) (evr_var rfl) evr_int (hw 0 (by omega))) evr_int (by omega)) evr_int) (fun _ => se_asg (R := D (dN 7)) evr_int ⟨7, by omega, by omega, rfl⟩) fun _ => se_next ⟨6, by omega, by omega, rfl⟩) ?_
  rintro _ ⟨most, m6, m7, rfl⟩
  unfold r_law10
  refine sq_asg (R := PK most) (evr_call (Rs := [Scr Z.K ns, D (dN most)]) (eva_cons (evr_var rfl) (eva_cons (evr_var rfl) eva_nil)) ⟨ns, most, m6, m7, rfl, rfl⟩) ?_
  refine se_open 3 rfl fun ks hks => ?_
  obtain ⟨h2, hm, hb⟩ := hks
  have h7 : ks.length ≤ 7 := by omega
  unfold r_law9
  refine sq_asg (R := PStrand Z ks) (evr_make (S := S_Sinit Z) (Rs := [D (dIs ks)]) (ok := True) (fr := frS ks) (eva_cons (EvN.r (evn_listM (enc := dI) (evr_var rfl))) eva_nil) ⟨ks, h2, by omega, fun x hx => by have := hb x hx; omega, rfl, rfl, rfl⟩ True.intro) ?_
  unfold r_law8
  refine sq_asg (R := D (.list ((hadL ks).map dRs))) (evr_call (Rs := [D (dIs ks)]) (eva_cons (evr_var rfl) eva_nil) ⟨ks, h2, h7, rfl, rfl⟩) ?_
  have mn := main ks h2 h7
  have hp := had_parts (ks := ks)
  have hne := had_ne h2 h7
  have hle := had_len h2 h7
  generalize hadL ks = hd at mn hp hne hle
  unfold r_law7
  refine sq_asg (evr_lcRX (j := 8) (fun l : List Nat => l.length = ks.length) (fun l => dRs (parts l)) (n := 8) evr_int (by omega) fun k hk => ?_) ?_
  · refine evr_call (S := S_law_drawn Z) (Rs := [D (dIs ks), D (.list (hd.map dRs)), D (dI _)]) (R := PG ks.length) (eva_cons (evr_var rfl) (eva_cons (evr_var rfl) (eva_cons (evr_call (Rs := [Scr Z.K ns, D (dN (2 + k))]) (eva_cons (evr_var rfl) (eva_cons (evr_addN (m := 2) evr_int (evr_var rfl)) eva_nil)) ⟨ns, 2 + k, rfl, rfl⟩) eva_nil))) ⟨ks, hd, _, h2, h7, hne, hle, fun rows hr => ?_, rfl, rfl⟩
    obtain ⟨l, hl, rfl⟩ := hp rows hr
    have ro := (mn l hl).1
    exact ⟨ro.len, ro.lt⟩
  refine se_open 6 rfl fun ls hls => ?_
  obtain ⟨ll, lb⟩ := hls
  have hdr : (ls.map fun l => dRs (parts l)) = (ls.map parts).map dRs := by rw [List.map_map]; rfl
  rw [hdr]
  have hlp : ∀ r ∈ ls.map parts, ∃ l : List Nat, l.length = ks.length ∧ r = parts l := fun r hr => by
    obtain ⟨l, hl, rfl⟩ := List.mem_map.mp hr
    exact ⟨l, lb l hl, rfl⟩
  have hll : (ls.map parts).length = 8 := by rw [List.length_map]; exact ll
  generalize ls.map parts = dw at hlp hll
  have hold : ∀ (rows : List (List Nat)) (way : Nat), rows ∈ hd ∨ rows ∈ dw → S_law_holds Z [PStrand Z ks, D (dRs rows), D (.list (hd.map dRs)), D (dN way)] (D (.bool true)) := fun rows way hr => by
    obtain ⟨l, hl, rfl⟩ : ∃ l : List Nat, l.length = ks.length ∧ rows = parts l := by
      rcases hr with z | z
      · exact hp _ z
      · exact hlp _ z
    exact ⟨ks, parts l, hd, way, h2, by omega, (mn l hl).1, (mn l hl).2, rfl, rfl⟩
  unfold r_law6
  refine sq_asg (R := D (.list ((hd ++ dw).map dRs))) (EvN.r (evn_catM (enc := dRs) (evr_var rfl) (evr_var rfl) (by omega))) ?_
  unfold r_law5
  refine se_seq (fun env => ∃ x y, env = [.has (Scr Z.K ns), .has (D (dNs wd)), .has (D (dN most)), .has (D (dIs ks)), .has (PStrand Z ks), .has (D (.list (hd.map dRs))), .has (D (.list (dw.map dRs))), .has (D (.list ((hd ++ dw).map dRs))), x, y])
    (se_forR1 (n := (hd ++ dw).length) (evr_lenM (enc := dRs) (evr_var rfl)) (by rw [List.length_append]; omega) (fun i env => ∃ x y, env = [.has (Scr Z.K ns), .has (D (dNs wd)), .has (D (dN most)), .has (D (dIs ks)), .has (PStrand Z ks), .has (D (.list (hd.map dRs))), .has (D (.list (dw.map dRs))), .has (D (.list ((hd ++ dw).map dRs))), x, y]) ⟨_, _, rfl⟩ (fun i env' hi iv => ?_) fun env' iv => iv) ?_
  · obtain ⟨x, y, rfl⟩ := iv
    have hat : (hd ++ dw)[i]? = some (hd ++ dw)[i] := List.getElem?_eq_getElem hi
    have hmem : (hd ++ dw)[i] ∈ hd ∨ (hd ++ dw)[i] ∈ dw := List.mem_append.mp (List.getElem_mem hi)
    generalize (hd ++ dw)[i] = rows at hat hmem
    unfold r_law1
    refine se_if (b := false) (evt_not (b := true) (evt_B (evr_call (Rs := [PStrand Z ks, D (dRs rows), D (.list (hd.map dRs)), D (dN (wd.getD 1 0 + i))]) (eva_cons (evr_var rfl) (eva_cons (evr_ixM (enc := dRs) (evr_var rfl) (evr_var rfl) hat) (eva_cons (evr_var rfl) (eva_cons (evr_addN (evr_ixN (i := 1) (evr_var rfl) evr_int (hw 1 (by omega))) (evr_var rfl)) eva_nil)))) (hold rows _ hmem)))) (fun z => by cases z) fun _ => se_next ⟨_, _, rfl⟩
  rintro _ ⟨x, y, rfl⟩
  unfold r_law4
  refine se_seq (fun env => True) (se_forLM dRs (xs := dw.reverse) ?_ (fun i env => ∃ x y, env = [.has (Scr Z.K ns), .has (D (dNs wd)), .has (D (dN most)), .has (D (dIs ks)), .has (PStrand Z ks), .has (D (.list (hd.map dRs))), .has (D (.list (dw.map dRs))), .has (D (.list ((hd ++ dw).map dRs))), x, y]) ⟨_, _, rfl⟩ (fun i rows env' hi iv => ?_) fun env' iv => True.intro) fun _ _ => ?_
  · rw [List.map_reverse]
    exact EvN.r (evn_rev (evr_var rfl))
  · obtain ⟨x, y, rfl⟩ := iv
    have hmem : rows ∈ hd ∨ rows ∈ dw := .inr (List.mem_reverse.mp (List.mem_of_getElem? hi))
    unfold r_law2
    refine se_if (b := false) (evt_not (b := true) (evt_B (evr_call (Rs := [PStrand Z ks, D (dRs rows), D (.list (hd.map dRs)), D (dN (wd.getD 1 0))]) (eva_cons (evr_var rfl) (eva_cons (evr_var rfl) (eva_cons (evr_var rfl) (eva_cons (evr_ixN (i := 1) (evr_var rfl) evr_int (hw 1 (by omega))) eva_nil)))) (hold rows _ hmem)))) (fun z => by cases z) fun _ => se_next ⟨_, _, rfl⟩
  · unfold r_law3
    exact se_ret evr_bl

def L_law : Nat := 7
abbrev P_law : List Str := ["_law_script"]
theorem fnok_law {P : Program} {w : World} {Z : Zt} {mg : Str → Option Value} {base : Heap} {f : Addr} {fd : FuncData} (F : Fun Z.K "law" "law" st_law f fd) (gf : mg "law" = some (.ref f)) (T : Tx0 mg) (C_law_cell : Cal P w Z.K mg base "_law_cell" L_law_cell P_law_cell (Fs (S_law_cell Z))) (C_law_draws : Cal P w Z.K mg base "_law_draws" L_law_draws P_law_draws (Fs (S_law_draws Z))) (C_law_strand_kinds : Cal P w Z.K mg base "_law_strand_kinds" L_law_strand_kinds P_law_strand_kinds (Fs (S_law_strand_kinds Z))) (C_Sinit : Cali CX0 P w Z.K mg base "Strand" Z.CS L_Sinit P_Sinit (Fi Z.CS Z.CE (S_Sinit Z))) (C_law_had : Cal P w Z.K mg base "_law_had" L_law_had P_law_had (Fs (S_law_had Z))) (C_law_drawn : Cal P w Z.K mg base "_law_drawn" L_law_drawn P_law_drawn (Fs (S_law_drawn Z))) (C_law_holds : Cal P w Z.K mg base "_law_holds" L_law_holds P_law_holds (Fs (S_law_holds Z))) : FnOk P w Z.K mg base CX0 L_law f fd P_law (Fs (S_law Z)) := by
  refine F.ok sc_law (fun vs H Q E h => Fs.len (S := S_law Z) (n := 1) (S_law_len Z) h) (fun cdv A outer s H vs Q E hr h => ⟨r_law Z, PSs.nox ?_, pure_law h⟩)
  have hu := hr.units
  have hu65 := room65 hr
  have hu64 := room64 hr
  exact (pss_cons (ps_set (i := 1) sc_law.nd rfl (Or.inl rfl) (pe_cal C_law_draws (hr.mono (by decide)) (pa_cons (pe_cal C_law_cell (hr.mono (by decide)) (pa_cons (pv 0) (pa_cons pe_int pa_nil))) (pa_cons pe_int (pa_cons pe_int pa_nil))))) (pss_cons (ps_set (i := 2) sc_law.nd rfl (Or.inl rfl) pe_int) (pss_cons (ps_if (pt_cmpR op_eq (pe_op op_mod (pe_ix ix_list (pv 1) pe_int (fun _ _ => rfl)) pe_int) pe_int (nomark _)) (pss_one (ps_set (i := 2) sc_law.nd rfl (Or.inl rfl) pe_int)) pss_nil) (pss_cons (ps_set (i := 3) sc_law.nd rfl (Or.inr rfl) (pe_cal C_law_strand_kinds (hr.mono (by decide)) (pa_cons (pv 0) (pa_cons (pv 2) pa_nil)))) (pss_cons (ps_set (i := 4) sc_law.nd rfl (Or.inl rfl) (pe_cali C_Sinit (hr.mono (by decide)) (pa_cons (pe_callTy call_list_of (by rfl) T.list (by decide +kernel) (pa_cons (pv 3) pa_nil)) pa_nil))) (pss_cons (ps_set (i := 5) sc_law.nd rfl (Or.inr rfl) (pe_cal C_law_had (hr.mono (by decide)) (pa_cons (pv 3) pa_nil))) (pss_cons (ps_setLc (i := 6) (own := [("_law_k", 8)]) (g := gName 8) (tt := tYes) rfl sc_law.nd rfl rfl (sw_true rfl rfl rfl (by decide +kernel)) (pi_range1 rfl T.range (pa_cons pe_int pa_nil)) (blkOk_by (own := [("_law_k", 8)]) (N := N_law) (sc := defScope st_law) (by decide +kernel)) (fun _ _ _ _ _ => pg_name (i := 8) sc_law.nd rfl (Or.inl rfl)) (fun _ _ _ _ _ => pts_nil) (fun _ _ _ _ _ => (pe_cal C_law_drawn (hr.mono (by decide)) (pa_cons (pv 3) (pa_cons (pv 5) (pa_cons (pe_cal C_law_cell (hr.mono (by decide)) (pa_cons (pv 0) (pa_cons (pe_op op_add pe_int (pv 8)) pa_nil))) pa_nil)))))) (pss_cons (ps_set (i := 7) sc_law.nd rfl (Or.inl rfl) (pe_op op_cat (pv 5) (pv 6))) (pss_cons (ps_for PassesOwn.never rfl (pi_range1 rfl T.range (pa_cons (pe_callB call_len_seq (by rfl) T.len PySem.boot_len (pa_cons (pv 7) pa_nil)) pa_nil)) (pg_name (i := 8) sc_law.nd rfl (Or.inl rfl)) (pss_one (ps_if (pt_not (pt_val (pe_cal C_law_holds (hr.mono (by decide)) (pa_cons (pv 4) (pa_cons (pe_ix ix_list (pv 7) (pv 8) (fun _ _ => rfl)) (pa_cons (pv 5) (pa_cons (pe_op op_add (pe_ix ix_list (pv 1) pe_int (fun _ _ => rfl)) (pv 8)) pa_nil))))))) (pss_one (ps_ret pe_bl)) pss_nil))) (pss_cons (ps_for PassesOwn.never rfl (pi_list (pe_revL (pv 6))) (pg_name (i := 9) sc_law.nd rfl (Or.inl rfl)) (pss_one (ps_if (pt_not (pt_val (pe_cal C_law_holds (hr.mono (by decide)) (pa_cons (pv 4) (pa_cons (pv 9) (pa_cons (pv 5) (pa_cons (pe_ix ix_list (pv 1) pe_int (fun _ _ => rfl)) pa_nil))))))) (pss_one (ps_ret pe_bl)) pss_nil))) (pss_one (ps_ret pe_bl))))))))))))


end Bm

/-! text BmPa -/
set_option Elab.async false
set_option maxRecDepth 100000
/-! patterns: a list told by the place where each item stands first -/
namespace Bm
section
variable {α : Type} [BEq α] [LawfulBEq α]
def fi (l : List α) : List Nat := l.map fun x => l.idxOf x
theorem fi_len (l : List α) : (fi l).length = l.length := by unfold fi; rw [List.length_map]
theorem fi_at {l : List α} {i : Nat} {x : α} (h : l[i]? = some x) : (fi l)[i]? = some (l.idxOf x) := by unfold fi; rw [List.getElem?_map, h]; rfl
theorem idx_at {l : List α} {x : α} (h : x ∈ l) : l[l.idxOf x]? = some x := by
  rw [List.getElem?_eq_getElem (List.idxOf_lt_length_of_mem h)]
  simp
theorem idx_inj {l : List α} {x y : α} (hx : x ∈ l) (hy : y ∈ l) (h : l.idxOf x = l.idxOf y) : x = y := by
  have h1 := idx_at hx
  rw [h, idx_at hy] at h1
  exact (Option.some.inj h1).symm
theorem eqo_fi (l : List α) : eqo (fi l) = eqo l := by
  funext i j
  unfold eqo
  cases h1 : l[i]? with
  | none =>
    have e1 : (fi l)[i]? = none := by unfold fi; rw [List.getElem?_map, h1]; rfl
    rw [e1]
    cases h2 : l[j]? with
    | none =>
      have e2 : (fi l)[j]? = none := by unfold fi; rw [List.getElem?_map, h2]; rfl
      rw [e2]
    | some y => rw [fi_at h2]
  | some x =>
    rw [fi_at h1]
    cases h2 : l[j]? with
    | none =>
      have e2 : (fi l)[j]? = none := by unfold fi; rw [List.getElem?_map, h2]; rfl
      rw [e2]
    | some y =>
      rw [fi_at h2]
      show (l.idxOf x == l.idxOf y) = (x == y)
      rw [Bool.eq_iff_iff, beq_iff_eq, beq_iff_eq]
      exact ⟨idx_inj (List.mem_of_getElem? h1) (List.mem_of_getElem? h2), fun h => by rw [h]⟩
theorem fi_snoc (l : List α) (x : α) : fi (l ++ [x]) = fi l ++ [if x ∈ l then l.idxOf x else l.length] := by
  unfold fi
  rw [List.map_append]
  congr 1
  · refine List.map_congr_left fun y hy => ?_
    rw [List.idxOf_append, if_pos hy]
  · rw [List.map_singleton, List.idxOf_append]
    by_cases h : x ∈ l
    · rw [if_pos h, if_pos h]
    · rw [if_neg h, if_neg h]
      simp
end
def pats : Nat → List (List Nat)
  | 0 => [[]]
  | n + 1 => (pats n).flatMap fun p => (p ++ [n]) :: ((List.range n).filter (fun j => p.getD j 0 == j)).map fun j => p ++ [j]
theorem fi_mem {α : Type} [BEq α] [LawfulBEq α] : ∀ (n : Nat) (l : List α), l.length = n → fi l ∈ pats n
  | 0, l, h => by
    have : l = [] := List.length_eq_zero_iff.mp h
    subst this
    exact List.mem_singleton.mpr rfl
  | n + 1, l, h => by
    have hne : l ≠ [] := fun z => by rw [z] at h; cases h
    have hs := List.dropLast_concat_getLast hne
    have hl : l.dropLast.length = n := by rw [List.length_dropLast, h]; rfl
    rw [← hs, fi_snoc]
    unfold pats
    rw [List.mem_flatMap]
    refine ⟨fi l.dropLast, fi_mem n _ hl, ?_⟩
    generalize l.getLast hne = x
    generalize l.dropLast = m at hl
    by_cases hx : x ∈ m
    · rw [if_pos hx]
      refine List.mem_cons_of_mem _ (List.mem_map.mpr ⟨m.idxOf x, ?_, rfl⟩)
      rw [List.mem_filter, List.mem_range]
      refine ⟨by rw [← hl]; exact List.idxOf_lt_length_of_mem hx, ?_⟩
      rw [List.getD_eq_getElem?_getD, fi_at (idx_at hx)]
      simp
    · rw [if_neg hx, hl]
      exact List.mem_cons_self
theorem pats_len : ∀ (n : Nat) (p : List Nat), p ∈ pats n → p.length = n
  | 0, p, h => by rw [List.mem_singleton.mp h]; rfl
  | n + 1, p, h => by
    unfold pats at h
    obtain ⟨q, hq, h⟩ := List.mem_flatMap.mp h
    have hl := pats_len n q hq
    rcases List.mem_cons.mp h with rfl | h
    · rw [List.length_append, hl]; rfl
    · obtain ⟨j, _, rfl⟩ := List.mem_map.mp h
      rw [List.length_append, hl]; rfl
theorem parts_of_eqo {l m : List Nat} (h : eqo l = eqo m) (hl : l.length = m.length) : parts l = parts m := by
  unfold parts
  rw [h, hl]
theorem parts_fi (l : List Nat) : parts (fi l) = parts l := parts_of_eqo (eqo_fi l) (fi_len l)
/-! ### labels by pairs: what they join -/
inductive Cn (R : Nat → Nat → Prop) : Nat → Nat → Prop
  | refl (a : Nat) : Cn R a a
  | step {a b : Nat} : R a b → Cn R a b
  | symm {a b : Nat} : Cn R a b → Cn R b a
  | trans {a b c : Nat} : Cn R a b → Cn R b c → Cn R a c
theorem Cn.mono {R S : Nat → Nat → Prop} (h : ∀ a b, R a b → S a b) {a b : Nat} (c : Cn R a b) : Cn S a b := by
  induction c with
  | refl a => exact .refl a
  | step r => exact .step (h _ _ r)
  | symm _ ih => exact .symm ih
  | trans _ _ ih1 ih2 => exact .trans ih1 ih2
theorem relabel_at {l : List Nat} {a b i : Nat} (hi : i < l.length) : (relabel l a b).getD i 0 = if l.getD i 0 = max a b then min a b else l.getD i 0 := by
  unfold relabel
  rw [List.getD_eq_getElem?_getD, List.getElem?_map, List.getD_eq_getElem?_getD, List.getElem?_eq_getElem hi]
  show (if (l[i] == max a b) = true then min a b else l[i]) = if l[i] = max a b then min a b else l[i]
  by_cases h : l[i] = max a b
  · rw [if_pos h, if_pos (by simpa using h)]
  · rw [if_neg h, if_neg (by simpa using h)]
def prR (e : Nat → Nat → Bool) (prs : List (Nat × Nat)) (a b : Nat) : Prop := (a, b) ∈ prs ∧ e a b = true
theorem gstep_cn {e : Nat → Nat → Bool} {n : Nat} {l : List Nat} {prs : List (Nat × Nat)} {q : Nat × Nat} (hl : l.length = n) (hp : ∀ q ∈ prs, q.1 < n ∧ q.2 < n) (hq : q.1 < n ∧ q.2 < n) (H : ∀ i j, i < n → j < n → (l.getD i 0 = l.getD j 0 ↔ Cn (prR e prs) i j)) :
    ∀ i j, i < n → j < n → ((gstep e l q).getD i 0 = (gstep e l q).getD j 0 ↔ Cn (prR e (prs ++ [q])) i j) := by
  have mono : ∀ a b, Cn (prR e prs) a b → Cn (prR e (prs ++ [q])) a b := fun a b c => c.mono fun x y r => ⟨List.mem_append_left _ r.1, r.2⟩
  have edge : ∀ a b, prR e (prs ++ [q]) a b → prR e prs a b ∨ ((a, b) = q ∧ e q.1 q.2 = true) := fun a b r => by
    rcases List.mem_append.mp r.1 with z | z
    · exact .inl ⟨z, r.2⟩
    · have z := List.mem_singleton.mp z
      subst z
      exact .inr ⟨rfl, r.2⟩
  -- any labels that agree along all edges agree where joined
  have back : ∀ l' : List Nat, (∀ a b, prR e (prs ++ [q]) a b → l'.getD a 0 = l'.getD b 0) → ∀ i j, Cn (prR e (prs ++ [q])) i j → l'.getD i 0 = l'.getD j 0 := fun l' hh i j c => by
    induction c with
    | refl a => rfl
    | step r => exact hh _ _ r
    | symm _ ih => exact ih.symm
    | trans _ _ ih1 ih2 => exact ih1.trans ih2
  have inl : ∀ a b, prR e prs a b → l.getD a 0 = l.getD b 0 := fun a b r => by
    have := hp _ r.1
    exact (H a b this.1 this.2).mpr (.step r)
  intro i j hi hj
  unfold gstep
  by_cases c : (e q.1 q.2 && l.getD q.1 0 != l.getD q.2 0) = true
  · rw [if_pos c]
    simp only [Bool.and_eq_true, bne_iff_ne, ne_eq] at c
    obtain ⟨c1, c2⟩ := c
    have hjoin : Cn (prR e (prs ++ [q])) q.1 q.2 := .step ⟨List.mem_append_right _ (List.mem_singleton.mpr rfl), c1⟩
    constructor
    · intro h
      rw [relabel_at (by omega), relabel_at (by omega)] at h
      generalize hA : l.getD q.1 0 = A at *
      generalize hB : l.getD q.2 0 = B at *
      have toA : ∀ x, x < n → l.getD x 0 = A → Cn (prR e (prs ++ [q])) x q.1 := fun x hx z => mono _ _ ((H x q.1 hx hq.1).mp (by rw [z, hA]))
      have toB : ∀ x, x < n → l.getD x 0 = B → Cn (prR e (prs ++ [q])) x q.1 := fun x hx z => (mono _ _ ((H x q.2 hx hq.2).mp (by rw [z, hB]))).trans hjoin.symm
      have both : ∀ x, x < n → (l.getD x 0 = max A B ∨ l.getD x 0 = min A B) → Cn (prR e (prs ++ [q])) x q.1 := fun x hx z => by
        have : l.getD x 0 = A ∨ l.getD x 0 = B := by omega
        exact this.elim (toA x hx) (toB x hx)
      by_cases c3 : l.getD i 0 = max A B
      · rw [if_pos c3] at h
        by_cases c4 : l.getD j 0 = max A B
        · exact mono _ _ ((H i j hi hj).mp (c3.trans c4.symm))
        · rw [if_neg c4] at h
          exact (both i hi (.inl c3)).trans (both j hj (.inr h.symm)).symm
      · rw [if_neg c3] at h
        by_cases c4 : l.getD j 0 = max A B
        · rw [if_pos c4] at h
          exact (both i hi (.inr h)).trans (both j hj (.inl c4)).symm
        · rw [if_neg c4] at h
          exact mono _ _ ((H i j hi hj).mp h)
    · refine back _ (fun a b r => ?_) i j
      have hab : a < n ∧ b < n := by
        rcases edge a b r with z | ⟨z, _⟩
        · exact hp _ z.1
        · rw [← z] at hq
          exact hq
      rw [relabel_at (by omega), relabel_at (by omega)]
      rcases edge a b r with z | ⟨z, _⟩
      · rw [inl a b z]
      · have e1 : a = q.1 := congrArg Prod.fst z
        have e2 : b = q.2 := congrArg Prod.snd z
        subst e1
        subst e2
        split <;> split <;> omega
  · rw [if_neg c]
    constructor
    · exact fun h => mono _ _ ((H i j hi hj).mp h)
    · refine back _ (fun a b r => ?_) i j
      rcases edge a b r with z | ⟨z, ze⟩
      · exact inl a b z
      · have e1 : a = q.1 := congrArg Prod.fst z
        have e2 : b = q.2 := congrArg Prod.snd z
        subst e1
        subst e2
        rw [ze, Bool.true_and] at c
        simpa using c
theorem lab_cn (e : Nat → Nat → Bool) (n : Nat) : ∀ (k : Nat) (prs : List (Nat × Nat)), prs.length = k → (∀ q ∈ prs, q.1 < n ∧ q.2 < n) → ∀ i j, i < n → j < n → ((lab e n prs).getD i 0 = (lab e n prs).getD j 0 ↔ Cn (prR e prs) i j)
  | 0, prs, h, _, i, j, hi, hj => by
    have : prs = [] := List.length_eq_zero_iff.mp h
    subst this
    have g : ∀ x, x < n → (List.range n).getD x 0 = x := fun x hx => by rw [List.getD_eq_getElem?_getD, List.getElem?_range hx]; rfl
    show (List.range n).getD i 0 = (List.range n).getD j 0 ↔ _
    rw [g i hi, g j hj]
    constructor
    · intro z
      rw [z]
      exact .refl j
    · intro c
      induction c with
      | refl a => rfl
      | step r => exact absurd r.1 (by simp)
      | symm _ ih => exact (ih hj hi).symm
      | trans c1 c2 _ _ =>
        have key : ∀ a b, Cn (prR e []) a b → a = b := fun a b c => by
          induction c with
          | refl a => rfl
          | step r => exact absurd r.1 (by simp)
          | symm _ ih => exact ih.symm
          | trans _ _ ih1 ih2 => exact ih1.trans ih2
        exact (key _ _ c1).trans (key _ _ c2)
  | k + 1, prs, h, hp, i, j, hi, hj => by
    have hne : prs ≠ [] := fun z => by rw [z] at h; cases h
    have hs := List.dropLast_concat_getLast hne
    have hl : prs.dropLast.length = k := by rw [List.length_dropLast, h]; rfl
    have hq := hp _ (List.getLast_mem hne)
    have hd : ∀ q ∈ prs.dropLast, q.1 < n ∧ q.2 < n := fun q hq => hp q (List.dropLast_subset _ hq)
    have ih := lab_cn e n k prs.dropLast hl hd
    rw [← hs]
    generalize prs.getLast hne = q at hq
    generalize prs.dropLast = ps at hd ih
    have e1 : lab e n (ps ++ [q]) = gstep e (lab e n ps) q := by
      unfold lab
      rw [List.foldl_append]
      rfl
    rw [e1]
    exact gstep_cn lab_len hd hq ih i j hi hj
theorem lab_same {e : Nat → Nat → Bool} {n : Nat} {ps qs : List (Nat × Nat)} (hp : ∀ q ∈ ps, q.1 < n ∧ q.2 < n) (h : ∀ q, q ∈ ps ↔ q ∈ qs) : parts (lab e n ps) = parts (lab e n qs) := by
  refine parts_of_eqo ?_ (by rw [lab_len, lab_len])
  have hp' : ∀ q ∈ qs, q.1 < n ∧ q.2 < n := fun q hq => hp q ((h q).mpr hq)
  have hR : prR e ps = prR e qs := by
    funext a b
    unfold prR
    rw [h (a, b)]
  have at_ : ∀ (l : List Nat) i, i < l.length → l[i]? = some (l.getD i 0) := fun l i hi => by rw [List.getD_eq_getElem?_getD, List.getElem?_eq_getElem hi]; rfl
  have no : ∀ (l : List Nat) i, l.length = n → ¬ i < n → l[i]? = none := fun l i hl hi => List.getElem?_eq_none (by omega)
  funext i j
  have l1 : (lab e n ps).length = n := lab_len
  have l2 : (lab e n qs).length = n := lab_len
  have c1 := lab_cn e n _ ps rfl hp i j
  have c2 := lab_cn e n _ qs rfl hp' i j
  rw [hR] at c1
  unfold eqo
  by_cases hi : i < n
  · rw [at_ _ i (by omega), at_ _ i (by omega)]
    by_cases hj : j < n
    · rw [at_ _ j (by omega), at_ _ j (by omega)]
      dsimp only
      rw [Bool.eq_iff_iff, beq_iff_eq, beq_iff_eq, c1 hi hj, c2 hi hj]
    · rw [no _ j l1 hj, no _ j l2 hj]
  · rw [no _ i l1 hi, no _ i l2 hi]
    by_cases hj : j < n
    · rw [at_ _ j (by omega), at_ _ j (by omega)]
    · rw [no _ j l1 hj, no _ j l2 hj]
end Bm

/-! text BmPb -/
set_option Elab.async false
set_option maxRecDepth 1000000
/-! the plain law over patterns, told by the kernel -/
namespace Bm
def rowIx (q : List Nat) : List Nat := q.map fun x => ((List.range x).filter fun j => q.getD j 0 == j).length
def szsOf (q : List Nat) : List Nat := ((List.range q.length).filter fun j => q.getD j 0 == j).map fun j => (q.filter (· == j)).length
def cstB (st : Option (List Nat × List Nat)) (p : Nat) : Option (List Nat × List Nat) := match st with
  | none => none
  | some (stack, closed) => if closed.contains p then none else if stack.contains p then some (stack.take (stack.idxOf p + 1), closed ++ stack.drop (stack.idxOf p + 1)) else some (stack ++ [p], closed)
def r3B (ix : List Nat) : Bool := (ix.foldl cstB (some ([], []))).isSome
def okq (p q : List Nat) : Bool := r3B (rowIx q) && goodB (eqo p) p.length (rowIx q) (szsOf q)
def extq (p : List Nat) (x : Nat) (q : List Nat) : List (List Nat) :=
  if (Nat.blt 0 x && eqo p x (x - 1)) = true then [q ++ [q.getD (x - 1) 0]]
  else (q ++ [x]) :: (((List.range x).filter fun j => q.getD j 0 == j && eqo p j x).map fun j => q ++ [j])
def candsK (p : List Nat) (k : Nat) : List (List Nat) := (List.range k).foldl (fun qs x => qs.flatMap (extq p x)) [[]]
def cands (p : List Nat) : List (List Nat) := (candsK p p.length).filter fun q => !(eqo p (p.length - 1) 0 && q.getD (p.length - 1) 0 != 0)
def bd (n : Nat) : List (Nat × Nat) := ((List.range (n - 1)).map fun k => (k, k + 1)) ++ [(0, n - 1)]
def tri7 : List (List (Nat × Nat)) :=
  [[(1, 6), (2, 6), (3, 6), (4, 6)], [(1, 6), (2, 6), (3, 5), (3, 6)], [(1, 6), (2, 5), (2, 6), (3, 5)], [(1, 5), (1, 6), (2, 5), (3, 5)], [(0, 5), (1, 5), (2, 5), (3, 5)], [(1, 6), (2, 4), (2, 6), (4, 6)], [(1, 6), (2, 4), (2, 5), (2, 6)]] ++
  [[(1, 5), (1, 6), (2, 4), (2, 5)], [(0, 5), (1, 5), (2, 4), (2, 5)], [(1, 4), (1, 6), (2, 4), (4, 6)], [(1, 4), (1, 5), (1, 6), (2, 4)], [(0, 5), (1, 4), (1, 5), (2, 4)], [(0, 4), (1, 4), (2, 4), (4, 6)], [(0, 4), (0, 5), (1, 4), (2, 4)]] ++
  [[(1, 3), (1, 6), (3, 6), (4, 6)], [(1, 3), (1, 6), (3, 5), (3, 6)], [(1, 3), (1, 5), (1, 6), (3, 5)], [(0, 5), (1, 3), (1, 5), (3, 5)], [(1, 3), (1, 4), (1, 6), (4, 6)], [(1, 3), (1, 4), (1, 5), (1, 6)], [(0, 5), (1, 3), (1, 4), (1, 5)]] ++
  [[(0, 4), (1, 3), (1, 4), (4, 6)], [(0, 4), (0, 5), (1, 3), (1, 4)], [(0, 3), (1, 3), (3, 6), (4, 6)], [(0, 3), (1, 3), (3, 5), (3, 6)], [(0, 3), (0, 5), (1, 3), (3, 5)], [(0, 3), (0, 4), (1, 3), (4, 6)], [(0, 3), (0, 4), (0, 5), (1, 3)]] ++
  [[(0, 2), (2, 6), (3, 6), (4, 6)], [(0, 2), (2, 6), (3, 5), (3, 6)], [(0, 2), (2, 5), (2, 6), (3, 5)], [(0, 2), (0, 5), (2, 5), (3, 5)], [(0, 2), (2, 4), (2, 6), (4, 6)], [(0, 2), (2, 4), (2, 5), (2, 6)], [(0, 2), (0, 5), (2, 4), (2, 5)]] ++
  [[(0, 2), (0, 4), (2, 4), (4, 6)], [(0, 2), (0, 4), (0, 5), (2, 4)], [(0, 2), (0, 3), (3, 6), (4, 6)], [(0, 2), (0, 3), (3, 5), (3, 6)], [(0, 2), (0, 3), (0, 5), (3, 5)], [(0, 2), (0, 3), (0, 4), (4, 6)], [(0, 2), (0, 3), (0, 4), (0, 5)]]
def tri6 : List (List (Nat × Nat)) :=
  [[(0, 2), (0, 3), (0, 4)], [(0, 2), (0, 3), (3, 5)], [(0, 2), (0, 4), (2, 4)], [(0, 2), (2, 4), (2, 5)], [(0, 2), (2, 5), (3, 5)], [(0, 3), (0, 4), (1, 3)], [(0, 3), (1, 3), (3, 5)]] ++
  [[(0, 4), (1, 3), (1, 4)], [(1, 3), (1, 4), (1, 5)], [(1, 3), (1, 5), (3, 5)], [(0, 4), (1, 4), (2, 4)], [(1, 4), (1, 5), (2, 4)], [(1, 5), (2, 4), (2, 5)], [(1, 5), (2, 5), (3, 5)]]
def addNew (s : List (List Nat)) (l : List Nat) : List (List Nat) := if s.contains l = true then s else l :: s
def labsB (p : List Nat) (ts : List (List (Nat × Nat))) : List (List Nat) := ts.foldl (fun s t => addNew s (t.foldl (gstep (eqo p)) (lab (eqo p) p.length (bd p.length)))) []
def chkG (S G : List (List Nat)) : Bool := S.all (fun s => G.contains s && fi s == s) && G.all (S.contains ·)
def itm (n : Nat) : List Nat := (List.range (n - 2)).map fun k => 1 + k
def PL (n : Nat) : List (List (Nat × Nat)) := if n = 7 then tri7.map (bd 7 ++ ·) else if n = 6 then tri6.map (bd 6 ++ ·) else (orders (itm n)).map (walkPairs n)
def chkT (ts : List (List (Nat × Nat))) (p : List Nat) : Bool := chkG (labsB p ts) ((cands p).filter (okq p))
def chkS (p : List Nat) : Bool := chkG ((PL p.length).map (lab (eqo p) p.length)) ((cands p).filter (okq p))
theorem chkG_ok {S G : List (List Nat)} (h : chkG S G = true) : (∀ s ∈ S, s ∈ G ∧ fi s = s) ∧ ∀ s ∈ G, s ∈ S := by
  unfold chkG at h
  rw [Bool.and_eq_true, List.all_eq_true, List.all_eq_true] at h
  refine ⟨fun s hs => ?_, fun s hs => List.contains_iff_mem.mp (h.2 s hs)⟩
  have := h.1 s hs
  rw [Bool.and_eq_true, List.contains_iff_mem, beq_iff_eq] at this
  exact this
theorem addNew_mem {s : List (List Nat)} {l x : List Nat} : x ∈ addNew s l ↔ x ∈ s ∨ x = l := by
  unfold addNew
  split
  · rename_i h
    rw [List.contains_iff_mem] at h
    exact ⟨.inl, fun z => z.elim id fun z => z ▸ h⟩
  · rw [List.mem_cons]
    exact Or.comm
theorem addFold_mem {β : Type} (f : β → List Nat) (x : List Nat) : ∀ (ts : List β) (s : List (List Nat)), x ∈ ts.foldl (fun s t => addNew s (f t)) s ↔ x ∈ s ∨ ∃ t ∈ ts, x = f t
  | [], s => by simp
  | t :: ts, s => by
    rw [List.foldl_cons, addFold_mem f x ts, addNew_mem]
    simp only [List.mem_cons, exists_eq_or_imp]
    rw [or_assoc]
theorem labsB_mem {p x : List Nat} {ts : List (List (Nat × Nat))} : x ∈ labsB p ts ↔ ∃ t ∈ ts, x = lab (eqo p) p.length (bd p.length ++ t) := by
  unfold labsB
  refine (addFold_mem (fun t => t.foldl (gstep (eqo p)) (lab (eqo p) p.length (bd p.length))) x ts []).trans ?_
  have e : ∀ t : List (Nat × Nat), lab (eqo p) p.length (bd p.length ++ t) = t.foldl (gstep (eqo p)) (lab (eqo p) p.length (bd p.length)) := fun t => by
    unfold lab
    rw [List.foldl_append]
  constructor
  · rintro (h | ⟨t, ht, rfl⟩)
    · cases h
    · exact ⟨t, ht, (e t).symm⟩
  · rintro ⟨t, ht, rfl⟩
    exact .inr ⟨t, ht, e t⟩
theorem slices {β : Type} (f : β → Bool) (l : List β) (c k : Nat) (hl : l.length ≤ k * c) (hc : 0 < c) (h : ∀ i, i < k → ((l.drop (i * c)).take c).all f = true) : ∀ x ∈ l, f x = true := fun x hx => by
  obtain ⟨i, hi, rfl⟩ := List.mem_iff_getElem.mp hx
  have hk : i / c < k := (Nat.div_lt_iff_lt_mul hc).mpr (by omega)
  have := h (i / c) hk
  rw [List.all_eq_true] at this
  refine this _ (List.mem_iff_getElem?.mpr ⟨i % c, ?_⟩)
  rw [List.getElem?_take, if_pos (Nat.mod_lt _ hc), List.getElem?_drop, Nat.mul_comm, Nat.div_add_mod, List.getElem?_eq_getElem hi]
end Bm

/-! text BmPc -/
set_option Elab.async false
set_option maxRecDepth 1000000
namespace Bm
/-- what stands of a pattern's parts -/
def patB (n : Nat) (q : List Nat) : Bool :=
  fi (ixOf n (parts q)) == q && ixOf n (parts q) == rowIx q && (parts q).map List.length == szsOf q
  && (parts q).all (fun r => !r.isEmpty && r.all (fun x => Nat.blt x n) && decide (r.Pairwise (· ≤ ·)))
  && decide ((parts q).Pairwise fun r r' => r.headD 0 < r'.headD 0) && (parts q).flatten.isPerm (List.range n) && Nat.ble (parts q).length 1000
theorem pat2 : (pats 2).all (patB 2) = true := by decide +kernel
theorem pat3 : (pats 3).all (patB 3) = true := by decide +kernel
theorem pat4 : (pats 4).all (patB 4) = true := by decide +kernel
theorem pat5 : (pats 5).all (patB 5) = true := by decide +kernel
theorem pat6 : (pats 6).all (patB 6) = true := by decide +kernel
theorem pat7 : (pats 7).all (patB 7) = true := by decide +kernel
/-- the walks' pairs are those of the list -/
def sameB (ps qs : List (Nat × Nat)) : Bool := ps.all (qs.contains ·) && qs.all (ps.contains ·)
def plB (n : Nat) : Bool := ((orders (itm n)).map (walkPairs n)).all (fun ps => ps.all (fun q => Nat.blt q.1 n && Nat.blt q.2 n) && (PL n).any (sameB ps)) && (PL n).all (fun qs => ((orders (itm n)).map (walkPairs n)).any fun ps => sameB ps qs)
  && (PL n).all (fun qs => (List.range n).all fun a => qs.contains (a, (a + 1) % n) || qs.contains ((a + 1) % n, a)) && (PL n).all fun qs => qs.all fun q => Nat.blt q.1 n && Nat.blt q.2 n
theorem pl2 : plB 2 = true := by decide +kernel
theorem pl3 : plB 3 = true := by decide +kernel
theorem pl4 : plB 4 = true := by decide +kernel
theorem pl5 : plB 5 = true := by decide +kernel
theorem pl6 : plB 6 = true := by decide +kernel
theorem pl7 : plB 7 = true := by decide +kernel
theorem chk2 : (pats 2).all chkS = true := by decide +kernel
theorem chk3 : (pats 3).all chkS = true := by decide +kernel
theorem chk4 : (pats 4).all chkS = true := by decide +kernel
theorem chk5 : (pats 5).all chkS = true := by decide +kernel
theorem chk6 : (pats 6).all (chkT tri6) = true := by decide +kernel

theorem chk7_0 : (((pats 7).drop (0 * 50)).take 50).all (chkT tri7) = true := by decide +kernel
theorem chk7_1 : (((pats 7).drop (1 * 50)).take 50).all (chkT tri7) = true := by decide +kernel
theorem chk7_2 : (((pats 7).drop (2 * 50)).take 50).all (chkT tri7) = true := by decide +kernel
theorem chk7_3 : (((pats 7).drop (3 * 50)).take 50).all (chkT tri7) = true := by decide +kernel
theorem chk7_4 : (((pats 7).drop (4 * 50)).take 50).all (chkT tri7) = true := by decide +kernel
theorem chk7_5 : (((pats 7).drop (5 * 50)).take 50).all (chkT tri7) = true := by decide +kernel
theorem chk7_6 : (((pats 7).drop (6 * 50)).take 50).all (chkT tri7) = true := by decide +kernel
theorem chk7_7 : (((pats 7).drop (7 * 50)).take 50).all (chkT tri7) = true := by decide +kernel
theorem chk7_8 : (((pats 7).drop (8 * 50)).take 50).all (chkT tri7) = true := by decide +kernel
theorem chk7_9 : (((pats 7).drop (9 * 50)).take 50).all (chkT tri7) = true := by decide +kernel
theorem chk7_10 : (((pats 7).drop (10 * 50)).take 50).all (chkT tri7) = true := by decide +kernel
theorem chk7_11 : (((pats 7).drop (11 * 50)).take 50).all (chkT tri7) = true := by decide +kernel
theorem chk7_12 : (((pats 7).drop (12 * 50)).take 50).all (chkT tri7) = true := by decide +kernel
theorem chk7_13 : (((pats 7).drop (13 * 50)).take 50).all (chkT tri7) = true := by decide +kernel
theorem chk7_14 : (((pats 7).drop (14 * 50)).take 50).all (chkT tri7) = true := by decide +kernel
theorem chk7_15 : (((pats 7).drop (15 * 50)).take 50).all (chkT tri7) = true := by decide +kernel
theorem chk7_16 : (((pats 7).drop (16 * 50)).take 50).all (chkT tri7) = true := by decide +kernel
theorem chk7_17 : (((pats 7).drop (17 * 50)).take 50).all (chkT tri7) = true := by decide +kernel
end Bm

/-! text BmPd -/
set_option Elab.async false
set_option maxRecDepth 100000
/-! the plain law: from patterns to lists -/
namespace Bm
theorem pat_all {n : Nat} (h2 : 2 ≤ n) (h7 : n ≤ 7) : (pats n).all (patB n) = true := by
  match n, h2, h7 with
  | 2, _, _ => exact pat2
  | 3, _, _ => exact pat3
  | 4, _, _ => exact pat4
  | 5, _, _ => exact pat5
  | 6, _, _ => exact pat6
  | 7, _, _ => exact pat7
theorem pl_all {n : Nat} (h2 : 2 ≤ n) (h7 : n ≤ 7) : plB n = true := by
  match n, h2, h7 with
  | 2, _, _ => exact pl2
  | 3, _, _ => exact pl3
  | 4, _, _ => exact pl4
  | 5, _, _ => exact pl5
  | 6, _, _ => exact pl6
  | 7, _, _ => exact pl7
theorem pats7_len : (pats 7).length ≤ 18 * 50 := by decide +kernel
theorem chk7_all : ∀ p ∈ pats 7, chkT tri7 p = true := slices _ _ 50 18 pats7_len (by omega) fun i hi => by
  match i, hi with
  | 0, _ => exact chk7_0
  | 1, _ => exact chk7_1
  | 2, _ => exact chk7_2
  | 3, _ => exact chk7_3
  | 4, _ => exact chk7_4
  | 5, _ => exact chk7_5
  | 6, _ => exact chk7_6
  | 7, _ => exact chk7_7
  | 8, _ => exact chk7_8
  | 9, _ => exact chk7_9
  | 10, _ => exact chk7_10
  | 11, _ => exact chk7_11
  | 12, _ => exact chk7_12
  | 13, _ => exact chk7_13
  | 14, _ => exact chk7_14
  | 15, _ => exact chk7_15
  | 16, _ => exact chk7_16
  | 17, _ => exact chk7_17
  | k + 18, h => exact absurd h (by omega)
/-- the labels met are the candidates in order -/
def CoreP (n : Nat) (p : List Nat) : Prop := (∀ ps ∈ PL n, (lab (eqo p) n ps ∈ cands p ∧ okq p (lab (eqo p) n ps) = true) ∧ fi (lab (eqo p) n ps) = lab (eqo p) n ps) ∧
  ∀ q ∈ cands p, okq p q = true → ∃ ps ∈ PL n, q = lab (eqo p) n ps
theorem coreT {n : Nat} {ts : List (List (Nat × Nat))} {p : List Nat} (hp : p.length = n) (hP : PL n = ts.map (bd n ++ ·)) (h : chkT ts p = true) : CoreP n p := by
  obtain ⟨a, b⟩ := chkG_ok h
  subst hp
  constructor
  · intro ps hps
    rw [hP] at hps
    obtain ⟨t, ht, rfl⟩ := List.mem_map.mp hps
    have := a _ (labsB_mem.mpr ⟨t, ht, rfl⟩)
    exact ⟨List.mem_filter.mp this.1, this.2⟩
  · intro q hq ho
    obtain ⟨t, ht, rfl⟩ := labsB_mem.mp (b q (List.mem_filter.mpr ⟨hq, ho⟩))
    exact ⟨_, by rw [hP]; exact List.mem_map.mpr ⟨t, ht, rfl⟩, rfl⟩
theorem coreS {n : Nat} {p : List Nat} (hp : p.length = n) (h : chkS p = true) : CoreP n p := by
  obtain ⟨a, b⟩ := chkG_ok h
  subst hp
  constructor
  · intro ps hps
    have := a _ (List.mem_map.mpr ⟨ps, hps, rfl⟩)
    exact ⟨List.mem_filter.mp this.1, this.2⟩
  · intro q hq ho
    obtain ⟨ps, h1, h2⟩ := List.mem_map.mp (b q (List.mem_filter.mpr ⟨hq, ho⟩))
    exact ⟨ps, h1, h2.symm⟩
theorem core {n : Nat} (h2 : 2 ≤ n) (h7 : n ≤ 7) {p : List Nat} (hp : p ∈ pats n) : CoreP n p := by
  have hl := pats_len n p hp
  have hn : n = 2 ∨ n = 3 ∨ n = 4 ∨ n = 5 ∨ n = 6 ∨ n = 7 := by omega
  rcases hn with e | e | e | e | e | e
  · rw [e] at hp hl ⊢; exact coreS hl (List.all_eq_true.mp chk2 p hp)
  · rw [e] at hp hl ⊢; exact coreS hl (List.all_eq_true.mp chk3 p hp)
  · rw [e] at hp hl ⊢; exact coreS hl (List.all_eq_true.mp chk4 p hp)
  · rw [e] at hp hl ⊢; exact coreS hl (List.all_eq_true.mp chk5 p hp)
  · rw [e] at hp hl ⊢; exact coreT hl (by unfold PL; rw [if_neg (by decide), if_pos rfl]) (List.all_eq_true.mp chk6 p hp)
  · rw [e] at hp hl ⊢; exact coreT hl (by unfold PL; rw [if_pos rfl]) (chk7_all p hp)
structure PatOk (n : Nat) (rows : List (List Nat)) (q : List Nat) : Prop where
  f : fi (ixOf n rows) = q
  ix : ixOf n rows = rowIx q
  sz : rows.map List.length = szsOf q
  rows : RowsOk n rows
theorem pat_ok {n : Nat} (h2 : 2 ≤ n) (h7 : n ≤ 7) {q : List Nat} (hq : q ∈ pats n) : PatOk n (parts q) q := by
  have h := List.all_eq_true.mp (pat_all h2 h7) q hq
  unfold patB at h
  simp only [Bool.and_eq_true, beq_iff_eq, List.all_eq_true, Bool.not_eq_true', List.isEmpty_eq_false_iff, decide_eq_true_eq, List.isPerm_iff] at h
  obtain ⟨⟨⟨⟨⟨⟨h1, h2⟩, h3⟩, h4⟩, h5⟩, h6⟩, h7⟩ := h
  exact ⟨h1, h2, h3, fun r hr => (h4 r hr).1.1, fun r hr => (h4 r hr).2, fun r hr x hx => by have := (h4 r hr).1.2 x hx; exact Nat.blt_eq.mp this, h5, h6, Nat.ble_eq.mp h7⟩
theorem sameB_ok {ps qs : List (Nat × Nat)} (h : sameB ps qs = true) : ∀ q, q ∈ ps ↔ q ∈ qs := fun q => by
  unfold sameB at h
  simp only [Bool.and_eq_true, List.all_eq_true, List.contains_iff_mem] at h
  exact ⟨h.1 q, h.2 q⟩
structure PlOk (n : Nat) : Prop where
  rt : ∀ run ∈ orders (itm n), (∀ q ∈ walkPairs n run, q.1 < n ∧ q.2 < n) ∧ ∃ ps ∈ PL n, ∀ q, q ∈ walkPairs n run ↔ q ∈ ps
  tr : ∀ ps ∈ PL n, ∃ run ∈ orders (itm n), ∀ q, q ∈ walkPairs n run ↔ q ∈ ps
  bnd : ∀ ps ∈ PL n, ∀ a, a < n → (a, (a + 1) % n) ∈ ps ∨ ((a + 1) % n, a) ∈ ps
  lt : ∀ ps ∈ PL n, ∀ q ∈ ps, q.1 < n ∧ q.2 < n
theorem pl_ok {n : Nat} (h2 : 2 ≤ n) (h7 : n ≤ 7) : PlOk n := by
  have h := pl_all h2 h7
  unfold plB at h
  simp only [Bool.and_eq_true, List.all_eq_true, List.any_eq_true, List.mem_range, Bool.or_eq_true, List.contains_iff_mem, Nat.blt_eq] at h
  obtain ⟨⟨⟨h1, h2⟩, h3⟩, h4⟩ := h
  refine ⟨fun run hr => ⟨fun q hq => (h1 _ (List.mem_map.mpr ⟨run, hr, rfl⟩)).1 q hq, ?_⟩, fun ps hps => ?_, h3, fun ps hps q hq => h4 ps hps q hq⟩
  · obtain ⟨ps, hps, hs⟩ := (h1 _ (List.mem_map.mpr ⟨run, hr, rfl⟩)).2
    exact ⟨ps, hps, sameB_ok hs⟩
  · obtain ⟨_, hm, hs⟩ := h2 ps hps
    obtain ⟨run, hr, rfl⟩ := List.mem_map.mp hm
    exact ⟨run, hr, sameB_ok hs⟩
end Bm

/-! text BmPe -/
set_option Elab.async false
set_option maxRecDepth 100000
/-! the plain law: every chain of two to seven -/
namespace Bm
section
variable {α : Type} [BEq α] [LawfulBEq α]
theorem eqo_iff {l : List α} {i j : Nat} : eqo l i j = true ↔ l[i]? = l[j]? := by
  unfold eqo
  cases h1 : l[i]? <;> cases h2 : l[j]? <;> simp
theorem eqo_getD {l : List α} {i j n : Nat} {d : α} (hl : l.length = n) (hi : i < n) (hj : j < n) : eqo l i j = true ↔ l.getD i d = l.getD j d := by
  rw [eqo_iff, List.getD_eq_getElem?_getD, List.getD_eq_getElem?_getD, List.getElem?_eq_getElem (by omega), List.getElem?_eq_getElem (by omega)]
  simp
theorem cn_eqo {l : List α} {ps : List (Nat × Nat)} {i j : Nat} (h : Cn (prR (eqo l) ps) i j) : eqo l i j = true := by
  induction h with
  | refl a => exact eqo_refl l a
  | step r => exact r.2
  | symm _ ih => rw [eqo_iff] at ih ⊢; exact ih.symm
  | trans _ _ a b => rw [eqo_iff] at a b ⊢; exact a.trans b
theorem fi_getD {l : List α} {i : Nat} {x : α} (h : l[i]? = some x) : (fi l).getD i 0 = l.idxOf x := by rw [List.getD_eq_getElem?_getD, fi_at h]; rfl
end
theorem candsK_succ (p : List Nat) (k : Nat) : candsK p (k + 1) = (candsK p k).flatMap (extq p k) := by
  unfold candsK
  rw [List.range_succ, List.foldl_append]
  rfl
theorem cand_pre {n : Nat} {p l : List Nat} (hl : l.length = n) (r1 : ∀ a b, a < n → b < n → l[a]? = l[b]? → eqo p a b = true) (r2 : ∀ a, a < n → eqo p a ((a + 1) % n) = true → l[a]? = l[(a + 1) % n]?) :
    ∀ k, k ≤ n → fi (l.take k) ∈ candsK p k
  | 0, _ => by
    rw [List.take_zero]
    exact List.mem_singleton.mpr rfl
  | k + 1, hk => by
    have ih := cand_pre hl r1 r2 k (by omega)
    rw [candsK_succ, List.mem_flatMap]
    refine ⟨_, ih, ?_⟩
    have hx : l[k]? = some l[k] := List.getElem?_eq_getElem (by omega)
    have ht : l.take (k + 1) = l.take k ++ [l[k]] := by rw [List.take_add_one, hx]; rfl
    rw [ht, fi_snoc]
    generalize l[k] = x at hx
    have hlt : (l.take k).length = k := by rw [List.length_take]; omega
    unfold extq
    by_cases c : (Nat.blt 0 k && eqo p k (k - 1)) = true
    · rw [if_pos c]
      rw [Bool.and_eq_true, Nat.blt_eq] at c
      have e1 := r2 (k - 1) (by omega)
      rw [show k - 1 + 1 = k by omega, Nat.mod_eq_of_lt (show k < n by omega)] at e1
      have e2 := e1 (by have := c.2; rw [eqo_iff] at this ⊢; exact this.symm)
      rw [hx] at e2
      have e3 : (l.take k)[k - 1]? = some x := by rw [List.getElem?_take, if_pos (by omega), e2]
      rw [if_pos (List.mem_of_getElem? e3), fi_getD e3]
      exact List.mem_singleton.mpr rfl
    · rw [if_neg c]
      by_cases hm : x ∈ l.take k
      · rw [if_pos hm]
        refine List.mem_cons_of_mem _ (List.mem_map.mpr ⟨(l.take k).idxOf x, ?_, rfl⟩)
        have hlt2 := List.idxOf_lt_length_of_mem hm
        rw [hlt] at hlt2
        have hat := idx_at hm
        rw [List.mem_filter, List.mem_range, Bool.and_eq_true, beq_iff_eq]
        refine ⟨hlt2, fi_getD hat, r1 _ _ (by omega) (by omega) ?_⟩
        rw [List.getElem?_take, if_pos hlt2] at hat
        rw [hat, hx]
      · rw [if_neg hm, hlt]
        exact List.mem_cons_self
theorem cand_mem {n : Nat} {p l : List Nat} (hn : 0 < n) (hp : p.length = n) (hl : l.length = n) (r1 : ∀ a b, a < n → b < n → l[a]? = l[b]? → eqo p a b = true) (r2 : ∀ a, a < n → eqo p a ((a + 1) % n) = true → l[a]? = l[(a + 1) % n]?) : fi l ∈ cands p := by
  unfold cands
  rw [List.mem_filter, hp]
  have h := cand_pre hl r1 r2 n (Nat.le_refl _)
  rw [List.take_of_length_le (by omega)] at h
  refine ⟨h, ?_⟩
  rw [Bool.not_eq_true', Bool.and_eq_false_iff]
  by_cases c : eqo p (n - 1) 0 = true
  · right
    have e := r2 (n - 1) (by omega)
    rw [show n - 1 + 1 = n by omega, Nat.mod_self] at e
    have e := e c
    have h0 : l[0]? = some l[0] := List.getElem?_eq_getElem (by omega)
    rw [h0] at e
    rw [fi_getD e]
    have : l.idxOf l[0] = 0 := by
      cases l with
      | nil => simp at hl; omega
      | cons a l => simp
    rw [this]
    rfl
  · left
    exact Bool.eq_false_iff.mpr c
def dsB (l : List Int) : List Int := l.foldl (fun s x => if x ∈ s then s else s ++ [x]) []
theorem kinds_ds {n : Nat} {ks : List Int} (hk : ks.length = n) (g : List Nat) (hg : ∀ x ∈ g, x < n) : (dsB (g.map fun x => ks.getD x 0)).length = kindsOf (eqo ks) g := by
  have key : ∀ (g s : List Nat), (∀ x ∈ g, x < n) → (∀ x ∈ s, x < n) →
      (g.map fun x => ks.getD x 0).foldl (fun s x => if x ∈ s then s else s ++ [x]) (s.map fun x => ks.getD x 0) = (g.foldl (fun s x => if s.any (fun y => eqo ks y x) = true then s else s ++ [x]) s).map fun x => ks.getD x 0 := by
    intro g
    induction g with
    | nil => intro s _ _; rfl
    | cons x g ih =>
      intro s hg hs
      rw [List.map_cons, List.foldl_cons, List.foldl_cons]
      have hx := hg x List.mem_cons_self
      have hg' : ∀ y ∈ g, y < n := fun y hy => hg y (List.mem_cons_of_mem _ hy)
      have hi : ks.getD x 0 ∈ s.map (fun x => ks.getD x 0) ↔ s.any (fun y => eqo ks y x) = true := by
        rw [List.mem_map, List.any_eq_true]
        constructor
        · rintro ⟨y, hy, h⟩
          exact ⟨y, hy, (eqo_getD hk (hs y hy) hx).mpr h⟩
        · rintro ⟨y, hy, h⟩
          exact ⟨y, hy, (eqo_getD hk (hs y hy) hx).mp h⟩
      by_cases c : s.any (fun y => eqo ks y x) = true
      · rw [if_pos c, if_pos (hi.mpr c)]
        exact ih s hg' hs
      · rw [if_neg c, if_neg (fun z => c (hi.mp z))]
        have := ih (s ++ [x]) hg' (fun y hy => by
          rcases List.mem_append.mp hy with z | z
          · exact hs y z
          · rw [List.mem_singleton.mp z]; exact hx)
        rw [List.map_append] at this
        exact this
  have := key g [] hg (fun x hx => nomatch hx)
  unfold dsB kindsOf
  rw [List.map_nil] at this
  rw [this, List.length_map]
theorem gapsOf_in {e : Nat → Nat → Bool} {n : Nat} {ix szs : List Nat} : ∀ g ∈ gapsOf e n ix szs, ∀ x ∈ g, x < n := fun g hg => by
  unfold gapsOf at hg
  obtain ⟨r, hr, rfl⟩ := List.mem_map.mp hg
  exact gapSt_in e n ix szs n r hr
theorem plain {ks : List Int} (h2 : 2 ≤ ks.length) (h7 : ks.length ≤ 7) {l : List Nat} (hl : l.length = ks.length) :
    RowsOk ks.length (parts l) ∧ ((∃ run ∈ orders (itm ks.length), parts l = parts (lab (eqo ks) ks.length (walkPairs ks.length run))) ↔
      ((∀ a b, a < b → b < ks.length → (ixOf ks.length (parts l)).getD a 0 = (ixOf ks.length (parts l)).getD b 0 → ks.getD a 0 = ks.getD b 0)
        ∧ (∀ a, a < ks.length → ks.getD a 0 = ks.getD ((a + 1) % ks.length) 0 → (ixOf ks.length (parts l)).getD a 0 = (ixOf ks.length (parts l)).getD ((a + 1) % ks.length) 0)
        ∧ r3B (ixOf ks.length (parts l)) = true)
      ∧ goodB (eqo ks) ks.length (ixOf ks.length (parts l)) ((parts l).map List.length) = true) := by
  generalize hn : ks.length = n at h2 h7 hl
  have hp : fi ks ∈ pats n := fi_mem n ks hn
  have hq : fi l ∈ pats n := fi_mem n l hl
  have hpl : (fi ks).length = n := by rw [fi_len, hn]
  have P := pat_ok h2 h7 hq
  rw [parts_fi] at P
  have L := pl_ok h2 h7
  obtain ⟨C1, C2⟩ := core h2 h7 hp
  rw [eqo_fi] at C1 C2
  have hix : (ixOf n (parts l)).length = n := ixOf_len
  -- labels by rows agree where the items do
  have hE : eqo (ixOf n (parts l)) = eqo l := by rw [← eqo_fi (ixOf n (parts l)), P.f, eqo_fi]
  have hD : ∀ a b, a < n → b < n → ((ixOf n (parts l)).getD a 0 = (ixOf n (parts l)).getD b 0 ↔ l[a]? = l[b]?) := fun a b ha hb => by
    rw [← eqo_getD hix ha hb, hE, eqo_iff]
  have hO : okq (fi ks) (fi l) = (r3B (ixOf n (parts l)) && goodB (eqo ks) n (ixOf n (parts l)) ((parts l).map List.length)) := by
    unfold okq
    rw [hpl, eqo_fi, P.ix, P.sz]
  have hm : ∀ a, a < n → (a + 1) % n < n := fun a _ => Nat.mod_lt _ (by omega)
  refine ⟨P.rows, ?_, ?_⟩
  · rintro ⟨run, hr, he⟩
    obtain ⟨hw, ps, hps, hs⟩ := L.rt run hr
    rw [lab_same hw hs] at he
    obtain ⟨⟨_, c2⟩, c3⟩ := C1 ps hps
    -- the chain's own labels
    have Q := pat_ok h2 h7 (fi_mem n (lab (eqo ks) n ps) lab_len)
    rw [parts_fi] at Q
    have hql : fi l = lab (eqo ks) n ps := by
      rw [← P.f, he, Q.f, c3]
    rw [← hql, hO, Bool.and_eq_true] at c2
    have hcn := lab_cn (eqo ks) n _ ps rfl (L.lt ps hps)
    rw [← hql] at hcn
    have hA : ∀ a b, a < n → b < n → (l[a]? = l[b]? ↔ Cn (prR (eqo ks) ps) a b) := fun a b ha hb => by
      rw [← hcn a b ha hb, ← eqo_getD (by rw [fi_len, hl]) ha hb, eqo_fi, eqo_iff]
    refine ⟨⟨fun a b ha hb h => ?_, fun a ha h => ?_, c2.1⟩, c2.2⟩
    · rw [hD a b (by omega) hb, hA a b (by omega) hb] at h
      exact (eqo_getD hn (by omega) hb).mp (cn_eqo h)
    · rw [hD a _ ha (hm a ha), hA a _ ha (hm a ha)]
      have e := (eqo_getD hn ha (hm a ha)).mpr h
      rcases L.bnd ps hps a ha with z | z
      · exact .step ⟨z, e⟩
      · exact .symm (.step ⟨z, by rw [eqo_iff] at e ⊢; exact e.symm⟩)
  · rintro ⟨⟨r1, r2, r3⟩, hg⟩
    have hc : fi l ∈ cands (fi ks) := by
      refine cand_mem (by omega) hpl hl (fun a b ha hb h => ?_) (fun a ha h => ?_)
      · rw [eqo_fi]
        rcases Nat.lt_trichotomy a b with z | z | z
        · exact (eqo_getD hn ha hb).mpr (r1 a b z hb ((hD a b ha hb).mpr h))
        · rw [z]; exact eqo_refl ks b
        · exact (eqo_getD (d := 0) hn ha hb).mpr (r1 b a z ha ((hD b a hb ha).mpr h.symm)).symm
      · rw [eqo_fi] at h
        exact (hD a _ ha (hm a ha)).mp (r2 a ha ((eqo_getD hn ha (hm a ha)).mp h))
    obtain ⟨ps, hps, he⟩ := C2 _ hc (by rw [hO, Bool.and_eq_true]; exact ⟨r3, hg⟩)
    obtain ⟨run, hr, hs⟩ := L.tr ps hps
    exact ⟨run, hr, by rw [lab_same (fun q hq => L.lt ps hps q ((hs q).mp hq)) hs, ← he, parts_fi]⟩
end Bm

/-! text BmPm -/
set_option Elab.async false
set_option maxRecDepth 100000
namespace Bm
theorem had_mem {ks : List Int} {rows : List (List Nat)} : ∀ (runs : List (List Nat)) (acc : List (List (List Nat))), rows ∈ runs.foldl (hstep ks) acc ↔ rows ∈ acc ∨ ∃ run ∈ runs, rows = groups ks (walkPairs ks.length run)
  | [], acc => by simp
  | run :: runs, acc => by
    rw [List.foldl_cons, had_mem runs]
    have : rows ∈ hstep ks acc run ↔ rows ∈ acc ∨ rows = groups ks (walkPairs ks.length run) := by
      unfold hstep
      split
      · rename_i h
        exact ⟨.inl, fun z => z.elim id fun z => z ▸ h⟩
      · rw [List.mem_append, List.mem_singleton]
    rw [this, or_assoc]
    simp only [List.mem_cons, exists_eq_or_imp]
theorem hadL_mem {ks : List Int} {rows : List (List Nat)} : rows ∈ hadL ks ↔ ∃ run ∈ orders (itm ks.length), rows = parts (lab (eqo ks) ks.length (walkPairs ks.length run)) := by
  unfold hadL
  rw [had_mem]
  exact ⟨fun h => h.elim (fun z => nomatch z) id, .inr⟩
theorem isN_kinds {ks : List Int} {g : List Nat} (hg : ∀ x ∈ g, x < ks.length) : isN ks g = (Nat.blt 2 g.length && kindsOf (eqo ks) g == 2) := by
  unfold isN
  rw [← kinds_ds rfl g hg]
  show (decide (2 < g.length) && decide ((Fz.dset (g.map fun x => ks.getD x 0)).length = 2)) = (Nat.blt 2 g.length && decide ((Fz.dset (g.map fun x => ks.getD x 0)).length = 2))
  congr 1
  rw [Bool.eq_iff_iff, decide_eq_true_eq, Nat.blt_eq]
theorem good_eq {ks : List Int} {rows : List (List Nat)} {ix : List Nat} : goodL ks rows ix = goodB (eqo ks) ks.length ix (rows.map List.length) := by
  unfold goodL goodB gapsL
  have : ∀ l : List (List Nat), (∀ g ∈ l, ∀ x ∈ g, x < ks.length) → (l.all fun g => !isN ks g) = l.all fun g => ! (Nat.blt 2 g.length && kindsOf (eqo ks) g == 2) := fun l => by
    induction l with
    | nil => intro _; rfl
    | cons g l ih =>
      intro h
      rw [List.all_cons, List.all_cons, ih fun g hg => h g (List.mem_cons_of_mem _ hg), isN_kinds (h g List.mem_cons_self)]
  exact this _ gapsOf_in
theorem main_law : MainLaw := fun ks h2 h7 l hl => by
  obtain ⟨a, b⟩ := plain h2 h7 hl
  refine ⟨a, ?_⟩
  rw [hadL_mem, b, good_eq]
  rfl
end Bm

/-! text BmEnd -/
set_option Elab.async false
set_option linter.all false
set_option maxRecDepth 100000
set_option maxHeartbeats 0
/-! the end: all joined -/
namespace BmH
open PySem PySem.Spec PyProof.Rows L2 PySem.BadX Bm Fz ClX
open He (ga ma ba eqO eqO_ok)
section
variable {K : PySem.W.Frag} {mg : Str → Option Value} {h : Heap}
def zt (K : PySem.W.Frag) : Zt := ⟨K, ga K "Book", ga K "Strand", ga K "BadBook"⟩
structure SaysP (K : PySem.W.Frag) : Prop where
  a : He5.SaysA fa fn K
  ex : exB K = true
  tx : fnT K (ma K (ga K "BadBook") "__init__") = badT
theorem says_ok (c : SaysB K) : SaysP K := ⟨congrArg (fun z : AlB => z.1) c, congrArg (fun z : AlB => z.2.1) c, congrArg (fun z : AlB => z.2.2) c⟩
theorem tx0 (c : SaysP K) (X : K.In h) (G : h.Ns mainGlobals mg) : Tx0 mg where
  len := He.free_ok X G (c.a.fact 0 rfl)
  range := He.free_ok X G (c.a.fact 1 rfl)
  list := He.free_ok X G (c.a.fact 2 rfl)
  tuple := He.free_ok X G (c.a.fact 3 rfl)
  int := He.free_ok X G (c.a.fact 4 rfl)
  min := He.free_ok X G (c.a.fact 5 rfl)
  max := He.free_ok X G (c.a.fact 6 rfl)
  sorted := He.free_ok X G (c.a.fact 7 rfl)
  enumerate := He.free_ok X G (c.a.fact 8 rfl)
  set := He.free_ok X G (c.a.fact 9 rfl)
theorem tc0 (c : SaysP K) : Tc (zt K) where
  clB := He.cls_ok (c.a.fact 42 rfl)
  clS := He.cls_ok (c.a.fact 43 rfl)
  nB := fun f hf => by
    simp only [List.mem_cons, List.not_mem_nil, or_false] at hf
    rcases hf with rfl | rfl | rfl | rfl | rfl
    · exact He.noat_ok (c.a.fact 48 rfl)
    · exact He.noat_ok (c.a.fact 49 rfl)
    · exact He.noat_ok (c.a.fact 50 rfl)
    · exact He.noat_ok (c.a.fact 51 rfl)
    · exact He.noat_ok (c.a.fact 52 rfl)
  nS := fun f hf => by
    simp only [List.mem_cons, List.not_mem_nil, or_false] at hf
    rcases hf with rfl | rfl | rfl | rfl | rfl
    · exact He.noat_ok (c.a.fact 53 rfl)
    · exact He.noat_ok (c.a.fact 54 rfl)
    · exact He.noat_ok (c.a.fact 55 rfl)
    · exact He.noat_ok (c.a.fact 56 rfl)
    · exact He.noat_ok (c.a.fact 57 rfl)
  mS := by
    obtain ⟨_, h⟩ := ba c.ex
    obtain ⟨h1, h⟩ := ba h
    obtain ⟨h2, h3⟩ := ba h
    exact ⟨.type "type", rdB_ok h3, conI_ok h1, conI_ok h2⟩
  te := He.exm_ok (c.a.fact 47 rfl)
theorem bad0 (c : SaysP K) (X : K.In h) (G : h.Ns mainGlobals mg) : BadTxt (PySem.Challenge.rw_beadmoot_k34_whole_good_books).prog K mg (ga K "BadBook") (ma K (ga K "BadBook") "__init__") :=
  badB_ok (ba c.ex).1 c.tx (He.glo_ok X G (c.a.fact 41 rfl)) (He.free_ok X G (c.a.fact 10 rfl)) (by decide +kernel)
theorem law0 (c : SaysP K) (X : K.In h) (G : h.Ns mainGlobals mg) : ∃ fd : FuncData, (∀ (s : Shared) (v : Value), BindsTo s fd ⟨[v], []⟩ [("_law_script", v)]) ∧
    ∀ (w : World) (base : Heap), FnOk (PySem.Challenge.rw_beadmoot_k34_whole_good_books).prog w K mg base CX0 7 (ga K "law") fd ["_law_script"] (Fs (S_law (zt K))) := by
  have T := tx0 c X G
  have tc := tc0 c
  have B := bad0 c X G
  obtain ⟨fd_Binit, FD_Binit⟩ := c.a.def_ 0 (d := d0) rfl
  have F_Binit : Fun K "__init__" "Book.__init__" st_Binit _ fd_Binit := He5.fun_of FD_Binit
  obtain ⟨fd_Bparty_of, FD_Bparty_of⟩ := c.a.def_ 1 (d := d1) rfl
  have F_Bparty_of : Fun K "party_of" "Book.party_of" st_Bparty_of _ fd_Bparty_of := He5.fun_of FD_Bparty_of
  obtain ⟨fd_Sinit, FD_Sinit⟩ := c.a.def_ 2 (d := d2) rfl
  have F_Sinit : Fun K "__init__" "Strand.__init__" st_Sinit _ fd_Sinit := He5.fun_of FD_Sinit
  obtain ⟨fd_check_rules, FD_check_rules⟩ := c.a.def_ 3 (d := d3) rfl
  have F_check_rules : Fun K "check_rules" "check_rules" st_check_rules _ fd_check_rules := He5.fun_of FD_check_rules
  obtain ⟨fd_first_crossing, FD_first_crossing⟩ := c.a.def_ 4 (d := d4) rfl
  have F_first_crossing : Fun K "first_crossing" "first_crossing" st_first_crossing _ fd_first_crossing := He5.fun_of FD_first_crossing
  obtain ⟨fd_gaps, FD_gaps⟩ := c.a.def_ 5 (d := d5) rfl
  have F_gaps : Fun K "gaps" "gaps" st_gaps _ fd_gaps := He5.fun_of FD_gaps
  obtain ⟨fd_is_good, FD_is_good⟩ := c.a.def_ 6 (d := d6) rfl
  have F_is_good : Fun K "is_good" "is_good" st_is_good _ fd_is_good := He5.fun_of FD_is_good
  obtain ⟨fd_law, FD_law⟩ := c.a.def_ 7 (d := d7) rfl
  have F_law : Fun K "law" "law" st_law _ fd_law := He5.fun_of FD_law
  obtain ⟨fd_law_book, FD_law_book⟩ := c.a.def_ 8 (d := d8) rfl
  have F_law_book : Fun K "_law_book" "_law_book" st_law_book _ fd_law_book := He5.fun_of FD_law_book
  obtain ⟨fd_law_cell, FD_law_cell⟩ := c.a.def_ 9 (d := d9) rfl
  have F_law_cell : Fun K "_law_cell" "_law_cell" st_law_cell _ fd_law_cell := He5.fun_of FD_law_cell
  obtain ⟨fd_law_closed, FD_law_closed⟩ := c.a.def_ 10 (d := d10) rfl
  have F_law_closed : Fun K "_law_closed" "_law_closed" st_law_closed _ fd_law_closed := He5.fun_of FD_law_closed
  obtain ⟨fd_law_crossing, FD_law_crossing⟩ := c.a.def_ 11 (d := d11) rfl
  have F_law_crossing : Fun K "_law_crossing" "_law_crossing" st_law_crossing _ fd_law_crossing := He5.fun_of FD_law_crossing
  obtain ⟨fd_law_drawn, FD_law_drawn⟩ := c.a.def_ 12 (d := d12) rfl
  have F_law_drawn : Fun K "_law_drawn" "_law_drawn" st_law_drawn _ fd_law_drawn := He5.fun_of FD_law_drawn
  obtain ⟨fd_law_draws, FD_law_draws⟩ := c.a.def_ 13 (d := d13) rfl
  have F_law_draws : Fun K "_law_draws" "_law_draws" st_law_draws _ fd_law_draws := He5.fun_of FD_law_draws
  obtain ⟨fd_law_good, FD_law_good⟩ := c.a.def_ 14 (d := d14) rfl
  have F_law_good : Fun K "_law_good" "_law_good" st_law_good _ fd_law_good := He5.fun_of FD_law_good
  obtain ⟨fd_law_groups, FD_law_groups⟩ := c.a.def_ 15 (d := d15) rfl
  have F_law_groups : Fun K "_law_groups" "_law_groups" st_law_groups _ fd_law_groups := He5.fun_of FD_law_groups
  obtain ⟨fd_law_had, FD_law_had⟩ := c.a.def_ 16 (d := d16) rfl
  have F_law_had : Fun K "_law_had" "_law_had" st_law_had _ fd_law_had := He5.fun_of FD_law_had
  obtain ⟨fd_law_holds, FD_law_holds⟩ := c.a.def_ 17 (d := d17) rfl
  have F_law_holds : Fun K "_law_holds" "_law_holds" st_law_holds _ fd_law_holds := He5.fun_of FD_law_holds
  obtain ⟨fd_law_kinds, FD_law_kinds⟩ := c.a.def_ 18 (d := d18) rfl
  have F_law_kinds : Fun K "_law_kinds" "_law_kinds" st_law_kinds _ fd_law_kinds := He5.fun_of FD_law_kinds
  obtain ⟨fd_law_labels, FD_law_labels⟩ := c.a.def_ 19 (d := d19) rfl
  have F_law_labels : Fun K "_law_labels" "_law_labels" st_law_labels _ fd_law_labels := He5.fun_of FD_law_labels
  obtain ⟨fd_law_mark, FD_law_mark⟩ := c.a.def_ 20 (d := d20) rfl
  have F_law_mark : Fun K "_law_mark" "_law_mark" st_law_mark _ fd_law_mark := He5.fun_of FD_law_mark
  obtain ⟨fd_law_mixed, FD_law_mixed⟩ := c.a.def_ 21 (d := d21) rfl
  have F_law_mixed : Fun K "_law_mixed" "_law_mixed" st_law_mixed _ fd_law_mixed := He5.fun_of FD_law_mixed
  obtain ⟨fd_law_near, FD_law_near⟩ := c.a.def_ 22 (d := d22) rfl
  have F_law_near : Fun K "_law_near" "_law_near" st_law_near _ fd_law_near := He5.fun_of FD_law_near
  obtain ⟨fd_law_orders, FD_law_orders⟩ := c.a.def_ 23 (d := d23) rfl
  have F_law_orders : Fun K "_law_orders" "_law_orders" st_law_orders _ fd_law_orders := He5.fun_of FD_law_orders
  obtain ⟨fd_law_parts, FD_law_parts⟩ := c.a.def_ 24 (d := d24) rfl
  have F_law_parts : Fun K "_law_parts" "_law_parts" st_law_parts _ fd_law_parts := He5.fun_of FD_law_parts
  obtain ⟨fd_law_strand_kinds, FD_law_strand_kinds⟩ := c.a.def_ 25 (d := d25) rfl
  have F_law_strand_kinds : Fun K "_law_strand_kinds" "_law_strand_kinds" st_law_strand_kinds _ fd_law_strand_kinds := He5.fun_of FD_law_strand_kinds
  obtain ⟨fd_law_walk, FD_law_walk⟩ := c.a.def_ 26 (d := d26) rfl
  have F_law_walk : Fun K "_law_walk" "_law_walk" st_law_walk _ fd_law_walk := He5.fun_of FD_law_walk
  obtain ⟨fd_narrow_gaps, FD_narrow_gaps⟩ := c.a.def_ 27 (d := d27) rfl
  have F_narrow_gaps : Fun K "narrow_gaps" "narrow_gaps" st_narrow_gaps _ fd_narrow_gaps := He5.fun_of FD_narrow_gaps
  obtain ⟨fd_parted_neighbours, FD_parted_neighbours⟩ := c.a.def_ 28 (d := d28) rfl
  have F_parted_neighbours : Fun K "parted_neighbours" "parted_neighbours" st_parted_neighbours _ fd_parted_neighbours := He5.fun_of FD_parted_neighbours
  obtain ⟨fd_parties_cross, FD_parties_cross⟩ := c.a.def_ 29 (d := d29) rfl
  have F_parties_cross : Fun K "parties_cross" "parties_cross" st_parties_cross _ fd_parties_cross := He5.fun_of FD_parties_cross
  obtain ⟨fd_unlike_pair, FD_unlike_pair⟩ := c.a.def_ 30 (d := d30) rfl
  have F_unlike_pair : Fun K "unlike_pair" "unlike_pair" st_unlike_pair _ fd_unlike_pair := He5.fun_of FD_unlike_pair
  have b := FunD.bindsA (ps := ["_law_script"]) FD_law fun _ _ _ _ _ _ us hl => match us, hl with | [_], _ => rfl
  refine ⟨fd_law, fun s v => b s [v] rfl, fun w base => ?_⟩
  have C_law_cell := cal_law_cell (P := (PySem.Challenge.rw_beadmoot_k34_whole_good_books).prog) (w := w) (Z := zt K) (base := base) F_law_cell (He.glo_ok X G (c.a.fact 17 rfl)) T
  have C_law_mixed := cal_law_mixed (P := (PySem.Challenge.rw_beadmoot_k34_whole_good_books).prog) (w := w) (Z := zt K) (base := base) F_law_mixed (He.glo_ok X G (c.a.fact 29 rfl)) T
  have C_law_draws := cal_law_draws (P := (PySem.Challenge.rw_beadmoot_k34_whole_good_books).prog) (w := w) (Z := zt K) (base := base) F_law_draws (He.glo_ok X G (c.a.fact 21 rfl)) T C_law_mixed
  have C_law_mark := cal_law_mark (P := (PySem.Challenge.rw_beadmoot_k34_whole_good_books).prog) (w := w) (Z := zt K) (base := base) F_law_mark (He.glo_ok X G (c.a.fact 28 rfl)) T
  have C_law_closed := cal_law_closed (P := (PySem.Challenge.rw_beadmoot_k34_whole_good_books).prog) (w := w) (Z := zt K) (base := base) F_law_closed (He.glo_ok X G (c.a.fact 18 rfl)) T
  have C_law_parts := cal_law_parts (P := (PySem.Challenge.rw_beadmoot_k34_whole_good_books).prog) (w := w) (Z := zt K) (base := base) F_law_parts (He.glo_ok X G (c.a.fact 32 rfl)) T
  have C_law_orders := cal_law_orders (P := (PySem.Challenge.rw_beadmoot_k34_whole_good_books).prog) (w := w) (Z := zt K) (base := base) F_law_orders (He.glo_ok X G (c.a.fact 31 rfl)) T
  have C_law_groups := cal_law_groups (P := (PySem.Challenge.rw_beadmoot_k34_whole_good_books).prog) (w := w) (Z := zt K) (base := base) F_law_groups (He.glo_ok X G (c.a.fact 23 rfl)) T
  have C_law_labels := cal_law_labels (P := (PySem.Challenge.rw_beadmoot_k34_whole_good_books).prog) (w := w) (Z := zt K) (base := base) F_law_labels (He.glo_ok X G (c.a.fact 27 rfl)) T
  have C_law_crossing := cal_law_crossing (P := (PySem.Challenge.rw_beadmoot_k34_whole_good_books).prog) (w := w) (Z := zt K) (base := base) F_law_crossing (He.glo_ok X G (c.a.fact 19 rfl)) T
  have C_law_walk := cal_law_walk (P := (PySem.Challenge.rw_beadmoot_k34_whole_good_books).prog) (w := w) (Z := zt K) (base := base) F_law_walk (He.glo_ok X G (c.a.fact 34 rfl)) T C_law_mark
  have C_law_kinds := cal_law_kinds (P := (PySem.Challenge.rw_beadmoot_k34_whole_good_books).prog) (w := w) (Z := zt K) (base := base) F_law_kinds (He.glo_ok X G (c.a.fact 26 rfl)) T C_law_cell C_law_draws
  have C_law_strand_kinds := cal_law_strand_kinds (P := (PySem.Challenge.rw_beadmoot_k34_whole_good_books).prog) (w := w) (Z := zt K) (base := base) F_law_strand_kinds (He.glo_ok X G (c.a.fact 33 rfl)) T C_law_cell C_law_draws C_law_kinds
  have C_law_book := cal_law_book (P := (PySem.Challenge.rw_beadmoot_k34_whole_good_books).prog) (w := w) (Z := zt K) (base := base) F_law_book (He.glo_ok X G (c.a.fact 16 rfl)) T C_law_closed C_law_groups C_law_labels C_law_crossing
  have C_law_had := cal_law_had (P := (PySem.Challenge.rw_beadmoot_k34_whole_good_books).prog) (w := w) (Z := zt K) (base := base) F_law_had (He.glo_ok X G (c.a.fact 24 rfl)) T C_law_orders C_law_walk C_law_groups
  have C_law_near := cal_law_near (P := (PySem.Challenge.rw_beadmoot_k34_whole_good_books).prog) (w := w) (Z := zt K) (base := base) F_law_near (He.glo_ok X G (c.a.fact 30 rfl)) T
  have C_law_drawn := cal_law_drawn (P := (PySem.Challenge.rw_beadmoot_k34_whole_good_books).prog) (w := w) (Z := zt K) (base := base) F_law_drawn (He.glo_ok X G (c.a.fact 20 rfl)) T C_law_draws C_law_parts C_law_closed C_law_groups C_law_book C_law_labels C_law_near
  have C_unlike_pair := cal_unlike_pair (P := (PySem.Challenge.rw_beadmoot_k34_whole_good_books).prog) (w := w) (Z := zt K) (base := base) F_unlike_pair (He.glo_ok X G (c.a.fact 38 rfl)) T
  have C_parted_neighbours := cal_parted_neighbours (P := (PySem.Challenge.rw_beadmoot_k34_whole_good_books).prog) (w := w) (Z := zt K) (base := base) F_parted_neighbours (He.glo_ok X G (c.a.fact 36 rfl)) T
  have C_parties_cross := cal_parties_cross (P := (PySem.Challenge.rw_beadmoot_k34_whole_good_books).prog) (w := w) (Z := zt K) (base := base) F_parties_cross (He.glo_ok X G (c.a.fact 37 rfl)) T
  have C_first_crossing := cal_first_crossing (P := (PySem.Challenge.rw_beadmoot_k34_whole_good_books).prog) (w := w) (Z := zt K) (base := base) F_first_crossing (He.glo_ok X G (c.a.fact 12 rfl)) T
  have C_check_rules := cal_check_rules (P := (PySem.Challenge.rw_beadmoot_k34_whole_good_books).prog) (w := w) (Z := zt K) (base := base) F_check_rules (He.glo_ok X G (c.a.fact 11 rfl)) T C_unlike_pair C_parted_neighbours C_parties_cross C_first_crossing B
  have C_Bparty_of := cal_Bparty_of (P := (PySem.Challenge.rw_beadmoot_k34_whole_good_books).prog) (w := w) (Z := zt K) (base := base) F_Bparty_of T tc (He.meth_ok (c.a.fact 46 rfl))
  have C_Sinit := cal_Sinit (P := (PySem.Challenge.rw_beadmoot_k34_whole_good_books).prog) (w := w) (Z := zt K) (base := base) F_Sinit T tc (He.glo_ok X G (c.a.fact 40 rfl)) (He.glo_ok X G (c.a.fact 40 rfl)) (He.mkr_ok (c.a.fact 45 rfl))
  have C_Binit := cal_Binit (P := (PySem.Challenge.rw_beadmoot_k34_whole_good_books).prog) (w := w) (Z := zt K) (base := base) F_Binit T C_check_rules tc B (He.glo_ok X G (c.a.fact 39 rfl)) (He.mkr_ok (c.a.fact 44 rfl))
  have C_gaps := cal_gaps (P := (PySem.Challenge.rw_beadmoot_k34_whole_good_books).prog) (w := w) (Z := zt K) (base := base) F_gaps (He.glo_ok X G (c.a.fact 13 rfl)) T C_Bparty_of tc
  have C_narrow_gaps := cal_narrow_gaps (P := (PySem.Challenge.rw_beadmoot_k34_whole_good_books).prog) (w := w) (Z := zt K) (base := base) F_narrow_gaps (He.glo_ok X G (c.a.fact 35 rfl)) T C_gaps tc
  have C_is_good := cal_is_good (P := (PySem.Challenge.rw_beadmoot_k34_whole_good_books).prog) (w := w) (Z := zt K) (base := base) F_is_good (He.glo_ok X G (c.a.fact 14 rfl)) T C_narrow_gaps tc
  have K_is_good := calk_is_good (P := (PySem.Challenge.rw_beadmoot_k34_whole_good_books).prog) (w := w) (Z := zt K) (base := base) F_is_good (He.glo_ok X G (c.a.fact 14 rfl)) T C_narrow_gaps tc
  have C_law_good := cal_law_good (P := (PySem.Challenge.rw_beadmoot_k34_whole_good_books).prog) (w := w) (Z := zt K) (base := base) F_law_good (He.glo_ok X G (c.a.fact 22 rfl)) T C_Binit C_is_good K_is_good tc B
  have C_law_holds := cal_law_holds (P := (PySem.Challenge.rw_beadmoot_k34_whole_good_books).prog) (w := w) (Z := zt K) (base := base) F_law_holds (He.glo_ok X G (c.a.fact 25 rfl)) T C_law_good
  have C_law := fnok_law (P := (PySem.Challenge.rw_beadmoot_k34_whole_good_books).prog) (w := w) (Z := zt K) (base := base) F_law (He.glo_ok X G (c.a.fact 15 rfl)) T C_law_cell C_law_draws C_law_strand_kinds C_Sinit C_law_had C_law_drawn C_law_holds
  exact C_law
end
theorem sp_law {K : PySem.W.Frag} {H : Hp} {a : Addr} {ns : List Int} (hS : SqL K H a (ns.map V.int)) : Fs (S_law (zt K)) [.ref a] H (fun v _ => v = .bl true) fun _ _ _ => False := by
  refine ⟨_, _, H, ⟨ns, main_law, rfl, rfl⟩, Ex.refl H, ⟨⟨a, rfl, hS⟩, True.intro⟩, fun v F' H' _ hv => ?_⟩
  cases hv
  rfl
end BmH
open PySem PySem.W PySem.Calls PyProof.Rows
theorem PySem.Challenge.cw_beadmoot_k34_whole_good_books_holds : PySem.Challenge.rw_beadmoot_k34_whole_good_books.Holds := by
  w_on; o_law
  refine HandSHeadRun.head_any (r := OpenLaw.row PySem.Challenge.rw_beadmoot_k34_whole_good_books) (q := view (OpenLaw.row PySem.Challenge.rw_beadmoot_k34_whole_good_books).prog [39]) (H := BmH.hk) (ob := BmH.ob) (M := 20000) (loose := BmH.names) (d := HandSHeadRun.topDef (OpenLaw.row PySem.Challenge.rw_beadmoot_k34_whole_good_books).prog 39) (kwd := []) BmH.ob_eq
    (by kernel_rfl) (fun s => by kernel_rfl) BmH.run (by kernel_rfl) (by kernel_rfl) (by kernel_rfl) (by rfl) (by first | assumption | decide +kernel) (by decide +kernel) ⟨rfl, rfl, rfl, rfl, rfl, by decide +kernel⟩ ?hw ?hc
  case hw => w_witness2
  case hc =>
    refine L2.walk_ofE (l := PySem.Challenge.rw_beadmoot_k34_whole_good_books) (n := 63) (k := 7) (x := "_law_script") (CX := L2.CX0) rfl (by decide) (by kernel_rfl) ⟨rfl, by decide, by decide⟩ ?F (fun _ _ _ _ z => z)
    intro w mg fa h Y G hmg0
    obtain ⟨K, KX, c⟩ := Y
    have hmg : mg ("law" : PySem.Str) = some (.ref fa) := by
      have e : (HandSHeadRun.topDef (OpenLaw.row PySem.Challenge.rw_beadmoot_k34_whole_good_books).prog 39).name = ("law" : PySem.Str) := by kernel_rfl
      rw [← e]
      exact hmg0
    have c := BmH.says_ok c
    have e := hmg.symm.trans (He.glo_ok KX G (c.a.fact 15 rfl))
    cases e
    obtain ⟨fd, hb, hF⟩ := BmH.law0 c KX G
    exact ⟨K, fd, _, KX, hb, fun H a ns hl _ hS => BmH.sp_law hS, fun base _ _ => hF w base⟩
