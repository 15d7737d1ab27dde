import PyProof.Rows.All
import Wide.All
import OpenK.AllK
import Wide.FinOn
import PyProof.EqAt
import PyProof.EqKinds
import PyProof.TupleCall
import HandS.ForMost
import HandS.Deep
import HandS.TupAny
import HandS.Style
import HandS.More
import KE.KStar
import KE.GoesEnum
import KE.GoesMore
import KE.GoesZip
import HandS.EndBits
import HandS.Words
import HandS.Ends
import HandS.StrSplit
import HandS.IsInst
import HandS.SortInts
import PyProof.ReprRoads
import HandS.Dict
import HandS.ExcInit
import HandS.ExcField
import HandS.TryMany
import HandS.ExcOwn
import HandS.WordsExc
import HandS.Lambda
import HandS.EndTab
import HandS.EndOwn
import HandS.Text
import PyProof.Rows.StrSplitMax
import PySem.Challenge.RW_wellstrewn_k64_journals
set_option Elab.async false
set_option linter.all false
section
set_option maxRecDepth 100000
set_option maxHeartbeats 2000000
/-! DL1: a layer of plain data over the hand layer: values as trees of data, own lists and dicts by slot, a mirror in Option. -/
namespace DL
open PySem L2

abbrev Dt := PyData

/-! ### extension of what is known -/
def Ex (H H' : Hp) : Prop := ∀ a o, H a = some o → H' a = some o
theorem Ex.refl (H : Hp) : Ex H H := fun _ _ h => h
theorem Ex.trans {H H1 H2 : Hp} (a : Ex H H1) (b : Ex H1 H2) : Ex H H2 := fun x o h => b x o (a x o h)
theorem Ex.new {H : Hp} {p : Addr} {o : HO} (h : H p = none) : Ex H (upd H p o) := fun a u e => by
  rw [upd_ne (ne_of_none e h)]; exact e
theorem Ex.free {H H' : Hp} {p : Addr} (e : Ex H H') (h : H' p = none) : H p = none := by
  cases h1 : H p with
  | none => rfl
  | some o => rw [e p o h1] at h; cases h
/-- an object that G does not know changes -/
theorem Ex.mut {G H : Hp} {p : Addr} {o : HO} (e : Ex G H) (h : G p = none) : Ex G (upd H p o) := fun a u ha => by
  rw [upd_ne (ne_of_none ha h)]; exact e a u ha
theorem Ex.both {G H : Hp} {p : Addr} {o : HO} (e : Ex G H) : Ex (upd G p o) (upd H p o) := fun a u ha => by
  by_cases q : a = p
  · subst q; rw [upd_same] at ha ⊢; exact ha
  · rw [upd_ne q] at ha ⊢; exact e a u ha
theorem upd_none {H : Hp} {p : Addr} {o : HO} {a : Addr} (h : upd H p o a = none) : H a = none ∧ a ≠ p := by
  by_cases q : a = p
  · subst q; rw [upd_same] at h; cases h
  · rw [upd_ne q] at h; exact ⟨h, q⟩

/-! ### data in a heap -/
def keyD : Key → Dt
  | .inl i => .int i
  | .inr s => .str s
def keyT (k : List Key) : Dt := .tuple (k.map keyD)
mutual
inductive Rp (G : Hp) : V → Dt → Prop
  | non : Rp G .non .none
  | bl (b : Bool) : Rp G (.bl b) (.bool b)
  | int (i : Int) : Rp G (.int i) (.int i)
  | str (x : Str) : Rp G (.str x) (.str x)
  | lst {a : Addr} {xs : List V} {ds : List Dt} : G a = some (.lst xs) → RpAll G xs ds → Rp G (.ref a) (.list ds)
  | tup {a : Addr} {xs : List V} {ds : List Dt} : G a = some (.tup xs) → RpAll G xs ds → Rp G (.ref a) (.tuple ds)
  | dicK {a : Addr} {es : List (Key × V)} {kvs : List (Dt × Dt)} : G a = some (.dK es) → kvs.map (·.1) = es.map (fun e => keyD e.1) → RpAll G (es.map (·.2)) (kvs.map (·.2)) → Rp G (.ref a) (.dict kvs)
  | dicT {a : Addr} {es : List (List Key × V)} {kvs : List (Dt × Dt)} : G a = some (.dT es) → kvs.map (·.1) = es.map (fun e => keyT e.1) → RpAll G (es.map (·.2)) (kvs.map (·.2)) → Rp G (.ref a) (.dict kvs)
inductive RpAll (G : Hp) : List V → List Dt → Prop
  | nil : RpAll G [] []
  | cons {v : V} {vs : List V} {d : Dt} {ds : List Dt} : Rp G v d → RpAll G vs ds → RpAll G (v :: vs) (d :: ds)
end
mutual
theorem Rp.exA {G G' : Hp} (e : Ex G G') : ∀ {v : V} {d : Dt}, Rp G v d → Rp G' v d
  | _, _, .non => .non
  | _, _, .bl b => .bl b
  | _, _, .int i => .int i
  | _, _, .str x => .str x
  | _, _, .lst h1 h2 => .lst (e _ _ h1) (RpAll.exA e h2)
  | _, _, .tup h1 h2 => .tup (e _ _ h1) (RpAll.exA e h2)
  | _, _, .dicK h1 k h2 => .dicK (e _ _ h1) k (RpAll.exA e h2)
  | _, _, .dicT h1 k h2 => .dicT (e _ _ h1) k (RpAll.exA e h2)
theorem RpAll.exA {G G' : Hp} (e : Ex G G') : ∀ {vs : List V} {ds : List Dt}, RpAll G vs ds → RpAll G' vs ds
  | _, _, .nil => .nil
  | _, _, .cons h t => .cons (Rp.exA e h) (RpAll.exA e t)
end
theorem Rp.ex {G G' : Hp} (e : Ex G G') (d : Dt) {v : V} (h : Rp G v d) : Rp G' v d := Rp.exA e h
theorem RpAll.ex {G G' : Hp} (e : Ex G G') (ds : List Dt) {vs : List V} (h : RpAll G vs ds) : RpAll G' vs ds := RpAll.exA e h
mutual
theorem Rp.dp {K : PySem.W.Frag} {G : Hp} : ∀ (d : Dt) {v : V}, d.canLay0 = true → Rp G v d → Dp K G v d
  | .none, _, _, h => by cases h; exact .non
  | .bool b, _, _, h => by cases h; exact .bl b
  | .int i, _, _, h => by cases h; exact .int i
  | .str x, _, _, h => by cases h; exact .str x
  | .list ds, _, c, h => by cases h with | lst h1 h2 => exact .lst (SqL.of h1) (RpAll.dp ds (by simpa [PyData.canLay0] using c) h2)
  | .tuple ds, _, c, h => by cases h with | tup h1 h2 => exact .tup (SqT.of h1) (RpAll.dp ds (by simpa [PyData.canLay0] using c) h2)
  | .dict _, _, c, _ => by simp [PyData.canLay0] at c
theorem RpAll.dp {K : PySem.W.Frag} {G : Hp} : ∀ (ds : List Dt) {vs : List V}, PyData.canLayAll0 ds = true → RpAll G vs ds → DpAll K G vs ds
  | [], _, _, h => by cases h; exact .nil
  | d :: ds, _, c, h => by
    simp only [PyData.canLayAll0, Bool.and_eq_true] at c
    cases h with | cons h1 h2 => exact .cons (Rp.dp d c.1 h1) (RpAll.dp ds c.2 h2)
end
theorem lay_of {d : Dt} (h : SeqAt.shaped d = true) : d.canLay0 = true := by
  unfold SeqAt.shaped at h
  exact (Bool.and_eq_true_iff.mp h).1
theorem RpAll.length {G : Hp} : ∀ {vs : List V} {ds : List Dt}, RpAll G vs ds → vs.length = ds.length
  | _, _, .nil => rfl
  | _, _, .cons _ t => by rw [List.length_cons, List.length_cons, RpAll.length t]
theorem RpAll.get {G : Hp} : ∀ {vs : List V} {ds : List Dt} {i : Nat} {d : Dt}, RpAll G vs ds → ds[i]? = some d → ∃ v, vs[i]? = some v ∧ Rp G v d
  | _, _, _, _, .nil, e => by simp at e
  | _, _, 0, d, .cons r _, e => by simp at e; subst e; exact ⟨_, rfl, r⟩
  | _, _, i + 1, d, .cons _ t, e => by
    obtain ⟨v, h1, h2⟩ := RpAll.get (i := i) (d := d) t (by simpa using e)
    exact ⟨v, by simpa using h1, h2⟩
theorem RpAll.getV {G : Hp} : ∀ {vs : List V} {ds : List Dt} {i : Nat} {v : V}, RpAll G vs ds → vs[i]? = some v → ∃ d, ds[i]? = some d ∧ Rp G v d
  | _, _, _, _, .nil, e => by simp at e
  | _, _, 0, v, .cons r _, e => by simp at e; subst e; exact ⟨_, rfl, r⟩
  | _, _, i + 1, v, .cons _ t, e => by
    obtain ⟨d, h1, h2⟩ := RpAll.getV (i := i) (v := v) t (by simpa using e)
    exact ⟨d, by simpa using h1, h2⟩
theorem RpAll.append {G : Hp} : ∀ {vs ws : List V} {ds es : List Dt}, RpAll G vs ds → RpAll G ws es → RpAll G (vs ++ ws) (ds ++ es)
  | _, _, _, _, .nil, s => s
  | _, _, _, _, .cons r t, s => .cons r (RpAll.append t s)
theorem RpAll.take {G : Hp} : ∀ {vs : List V} {ds : List Dt} (n : Nat), RpAll G vs ds → RpAll G (vs.take n) (ds.take n)
  | _, _, 0, _ => .nil
  | _, _, _ + 1, .nil => .nil
  | _, _, n + 1, .cons r t => .cons r (RpAll.take n t)
theorem RpAll.drop {G : Hp} : ∀ {vs : List V} {ds : List Dt} (n : Nat), RpAll G vs ds → RpAll G (vs.drop n) (ds.drop n)
  | _, _, 0, r => r
  | _, _, _ + 1, .nil => .nil
  | _, _, n + 1, .cons _ t => RpAll.drop n t
theorem RpAll.set {G : Hp} {v : V} {d : Dt} (r : Rp G v d) : ∀ {vs : List V} {ds : List Dt} (i : Nat), RpAll G vs ds → RpAll G (vs.set i v) (ds.set i d)
  | _, _, _, .nil => .nil
  | _, _, 0, .cons _ t => .cons r t
  | _, _, i + 1, .cons q t => .cons q (RpAll.set r i t)
theorem RpAll.one {G : Hp} {v : V} {d : Dt} (r : Rp G v d) : RpAll G [v] [d] := .cons r .nil
theorem RpAll.dropLast {G : Hp} {vs : List V} {ds : List Dt} (r : RpAll G vs ds) : RpAll G vs.dropLast ds.dropLast := by
  rw [List.dropLast_eq_take, List.dropLast_eq_take, r.length]; exact r.take _
theorem RpAll.eraseIdx {G : Hp} : ∀ {vs : List V} {ds : List Dt} (i : Nat), RpAll G vs ds → RpAll G (vs.eraseIdx i) (ds.eraseIdx i)
  | _, _, _, .nil => .nil
  | _, _, 0, .cons _ t => t
  | _, _, i + 1, .cons q t => .cons q (RpAll.eraseIdx i t)
theorem RpAll.rep {G : Hp} {vs : List V} {ds : List Dt} (h : RpAll G vs ds) : ∀ k : Nat, RpAll G (List.replicate k vs).flatten (List.replicate k ds).flatten
  | 0 => .nil
  | k + 1 => by
    rw [List.replicate_succ, List.replicate_succ, List.flatten_cons, List.flatten_cons]
    exact h.append (RpAll.rep h k)
theorem RpAll.mem {G : Hp} {vs : List V} {ds : List Dt} (r : RpAll G vs ds) {v : V} (h : v ∈ vs) : ∃ d, d ∈ ds ∧ Rp G v d := by
  obtain ⟨i, hi⟩ := List.getElem?_of_mem h
  obtain ⟨d, h1, h2⟩ := r.getV hi
  exact ⟨d, List.mem_of_getElem? h1, h2⟩

/-! ### dicts: their keys as data; t: the keys are tuples -/
def DicR (G : Hp) (t : Bool) (o : HO) (kvs : List (Dt × Dt)) : Prop := match t with
  | false => ∃ es : List (Key × V), o = .dK es ∧ kvs.map (·.1) = es.map (fun e => keyD e.1) ∧ RpAll G (es.map (·.2)) (kvs.map (·.2))
  | true => ∃ es : List (List Key × V), o = .dT es ∧ kvs.map (·.1) = es.map (fun e => keyT e.1) ∧ RpAll G (es.map (·.2)) (kvs.map (·.2))
theorem DicR.ex {G G' : Hp} (e : Ex G G') {t : Bool} {o : HO} {kvs : List (Dt × Dt)} (h : DicR G t o kvs) : DicR G' t o kvs := by
  cases t with
  | false => obtain ⟨es, h1, h2, h3⟩ := h; exact ⟨es, h1, h2, RpAll.exA e h3⟩
  | true => obtain ⟨es, h1, h2, h3⟩ := h; exact ⟨es, h1, h2, RpAll.exA e h3⟩
theorem DicR.rp {G : Hp} {t : Bool} {o : HO} {kvs : List (Dt × Dt)} {a : Addr} (h : DicR G t o kvs) (ha : G a = some o) : Rp G (.ref a) (.dict kvs) := by
  cases t with
  | false => obtain ⟨es, rfl, h2, h3⟩ := h; exact .dicK ha h2 h3
  | true => obtain ⟨es, rfl, h2, h3⟩ := h; exact .dicT ha h2 h3

/-! ### slots -/
inductive SV where
  | no
  | imm (d : Dt)
  | lst (p : Bool) (ds : List Dt)
  | dic (p t : Bool) (kvs : List (Dt × Dt))
abbrev En := List SV
def kind : SV → Nat
  | .no => 0
  | .imm _ => 1
  | .lst false _ => 2
  | .lst true _ => 3
  | .dic false false _ => 4
  | .dic true false _ => 5
  | .dic false true _ => 6
  | .dic true true _ => 7
def isOwn (s : SV) : Bool := decide (2 ≤ kind s)
def isPin (s : SV) : Bool := kind s == 3 || kind s == 5 || kind s == 7

/-- an own object at a -/
def ObjR (G H : Hp) (a : Addr) : SV → Prop
  | .lst _ ds => G a = none ∧ ∃ vs, H a = some (.lst vs) ∧ RpAll G vs ds
  | .dic _ t kvs => G a = none ∧ ∃ o, H a = some o ∧ DicR G t o kvs
  | _ => False
def SlotR (G H : Hp) : SV → Option (Option V) → Prop
  | .no, _ => True
  | .imm d, s => ∃ v, s = some (some v) ∧ Rp G v d
  | sv, s => ∃ a, s = some (some (.ref a)) ∧ ObjR G H a sv
def OwnAt (ρ : En) (σ : L2.St) (i : Nat) (a : Addr) : Prop := (∃ sv, ρ[i]? = some sv ∧ isOwn sv = true) ∧ σ[i]? = some (some (.ref a))
def Own (ρ : En) (σ : L2.St) (a : Addr) : Prop := ∃ i, OwnAt ρ σ i a
structure Rel (ρ : En) (σ : L2.St) (G H : Hp) : Prop where
  ex : Ex G H
  slot : ∀ (i : Nat) sv, ρ[i]? = some sv → SlotR G H sv (σ[i]?)
  sep : ∀ (i j : Nat) a, OwnAt ρ σ i a → OwnAt ρ σ j a → i = j
  len : ρ.length = σ.length
structure Stp (O : Addr → Prop) (G H G' H' : Hp) : Prop where
  exG : Ex G G'
  fr : ∀ a o, H a = some o → ¬ O a → H' a = some o
  new : ∀ a, G a = none → H a ≠ none → G' a = none
  live : ∀ a, H a ≠ none → H' a ≠ none
/-- nothing but growth -/
structure Grow (G H G' H' : Hp) : Prop where
  exG : Ex G G'
  exH : Ex H H'
  new : ∀ a, G a = none → H a ≠ none → G' a = none
  ex : Ex G' H'
def SameK (ρ ρ' : En) : Prop := ρ'.map kind = ρ.map kind

theorem ObjR.there {G H : Hp} {a : Addr} {sv : SV} (h : ObjR G H a sv) : G a = none ∧ H a ≠ none := by
  cases sv with
  | no => exact h.elim
  | imm _ => exact h.elim
  | lst _ _ => obtain ⟨h1, vs, h2, _⟩ := h; exact ⟨h1, by rw [h2]; exact fun q => nomatch q⟩
  | dic _ _ _ => obtain ⟨h1, o, h2, _⟩ := h; exact ⟨h1, by rw [h2]; exact fun q => nomatch q⟩
theorem ObjR.move {G H G' H' : Hp} {a : Addr} {sv : SV} (h : ObjR G H a sv) (e : Ex G G') (n : G' a = none) (k : ∀ o, H a = some o → H' a = some o) : ObjR G' H' a sv := by
  cases sv with
  | no => exact h.elim
  | imm _ => exact h.elim
  | lst _ _ => obtain ⟨h1, vs, h2, h3⟩ := h; exact ⟨n, vs, k _ h2, RpAll.ex e _ h3⟩
  | dic _ _ _ => obtain ⟨h1, o, h2, h3⟩ := h; exact ⟨n, o, k _ h2, h3.ex e⟩
theorem SlotR.own {G H : Hp} {sv : SV} {s : Option (Option V)} (h : SlotR G H sv s) (o : isOwn sv = true) : ∃ a, s = some (some (.ref a)) ∧ ObjR G H a sv := by
  cases sv with
  | no => cases o
  | imm _ => cases o
  | lst _ _ => exact h
  | dic _ _ _ => exact h
theorem SlotR.mk {G H : Hp} {sv : SV} {a : Addr} (h : ObjR G H a sv) : SlotR G H sv (some (some (.ref a))) := by
  cases sv with
  | no => trivial
  | imm _ => exact h.elim
  | lst _ _ => exact ⟨a, rfl, h⟩
  | dic _ _ _ => exact ⟨a, rfl, h⟩
theorem ObjR.isOwn {G H : Hp} {sv : SV} {a : Addr} (h : ObjR G H a sv) : isOwn sv = true := by
  cases sv with
  | no => exact h.elim
  | imm _ => exact h.elim
  | lst p _ => cases p <;> rfl
  | dic p t _ => cases p <;> cases t <;> rfl
theorem Rel.obj {ρ : En} {σ : L2.St} {G H : Hp} (r : Rel ρ σ G H) {i : Nat} {a : Addr} (h : OwnAt ρ σ i a) : ∃ sv, ρ[i]? = some sv ∧ ObjR G H a sv := by
  obtain ⟨⟨sv, h1, h2⟩, h3⟩ := h
  obtain ⟨b, h4, h5⟩ := (r.slot i sv h1).own h2
  rw [h3] at h4
  cases h4
  exact ⟨sv, h1, h5⟩
theorem Rel.notG {ρ : En} {σ : L2.St} {G H : Hp} (r : Rel ρ σ G H) {a : Addr} (h : Own ρ σ a) : G a = none ∧ H a ≠ none := by
  obtain ⟨i, h⟩ := h
  obtain ⟨sv, _, h⟩ := r.obj h
  exact h.there
theorem Rel.grow {ρ : En} {σ : L2.St} {G H G' H' : Hp} (r : Rel ρ σ G H) (g : Grow G H G' H') : Rel ρ σ G' H' where
  ex := g.ex
  slot := fun i sv h => by
    have q := r.slot i sv h
    cases sv with
    | no => trivial
    | imm d => obtain ⟨v, h1, h2⟩ := q; exact ⟨v, h1, Rp.ex g.exG _ h2⟩
    | lst p ds => obtain ⟨a, h1, h2⟩ := q; exact ⟨a, h1, h2.move g.exG (g.new a h2.there.1 h2.there.2) fun o => g.exH a o⟩
    | dic p t ds => obtain ⟨a, h1, h2⟩ := q; exact ⟨a, h1, h2.move g.exG (g.new a h2.there.1 h2.there.2) fun o => g.exH a o⟩
  sep := r.sep
  len := r.len
theorem Grow.refl {G H : Hp} (e : Ex G H) : Grow G H G H := ⟨Ex.refl G, Ex.refl H, fun _ h _ => h, e⟩
theorem Grow.trans {G H G1 H1 G2 H2 : Hp} (a : Grow G H G1 H1) (b : Grow G1 H1 G2 H2) : Grow G H G2 H2 :=
  ⟨a.exG.trans b.exG, a.exH.trans b.exH, fun x h1 h2 => b.new x (a.new x h1 h2) (by
    cases q : H x with
    | none => exact absurd q h2
    | some o => rw [a.exH x o q]; exact fun z => nomatch z), b.ex⟩
theorem Grow.known {G H : Hp} {p : Addr} {o : HO} (e : Ex G H) (h : H p = none) : Grow G H (upd G p o) (upd H p o) :=
  ⟨Ex.new (e.free h), Ex.new h, fun a h1 h2 => by rw [upd_ne (fun q => h2 (by rw [q]; exact h))]; exact h1, e.both⟩
theorem Grow.unknown {G H : Hp} {p : Addr} {o : HO} (e : Ex G H) (h : H p = none) : Grow G H G (upd H p o) :=
  ⟨Ex.refl G, Ex.new h, fun _ h _ => h, e.mut (e.free h)⟩
theorem Stp.refl {O : Addr → Prop} (G H : Hp) : Stp O G H G H := ⟨Ex.refl G, fun _ _ h _ => h, fun _ h _ => h, fun _ h => h⟩
theorem Stp.trans {O O1 : Addr → Prop} {G H G1 H1 G2 H2 : Hp} (a : Stp O G H G1 H1) (b : Stp O1 G1 H1 G2 H2) (k : ∀ x, O1 x → O x ∨ H x = none) : Stp O G H G2 H2 where
  exG := a.exG.trans b.exG
  fr := fun x o h1 h2 => b.fr x o (a.fr x o h1 h2) fun z => (k x z).elim h2 fun q => by rw [h1] at q; cases q
  new := fun x h1 h2 => b.new x (a.new x h1 h2) (a.live x h2)
  live := fun x h => b.live x (a.live x h)
theorem Grow.stp {O : Addr → Prop} {G H G' H' : Hp} (g : Grow G H G' H') : Stp O G H G' H' :=
  ⟨g.exG, fun x o h _ => g.exH x o h, g.new, fun x h => by
    cases q : H x with
    | none => exact absurd q h
    | some o => rw [g.exH x o q]; exact fun z => nomatch z⟩
theorem Stp.grow {O : Addr → Prop} {G H G1 H1 G2 H2 : Hp} (a : Stp O G H G1 H1) (g : Grow G1 H1 G2 H2) : Stp O G H G2 H2 := a.trans (O1 := fun _ => False) g.stp fun _ z => z.elim
theorem SameK.refl (ρ : En) : SameK ρ ρ := rfl
theorem SameK.trans {a b c : En} (h : SameK a b) (h' : SameK b c) : SameK a c := Eq.trans h' h
theorem SameK.symm {a b : En} (h : SameK a b) : SameK b a := Eq.symm h
theorem SameK.len {a b : En} (h : SameK a b) : b.length = a.length := by
  have := congrArg List.length h
  simpa using this
theorem SameK.at {a b : En} (h : SameK a b) (i : Nat) : (b[i]?).map kind = (a[i]?).map kind := by
  have := congrArg (fun l => l[i]?) h
  simpa using this
theorem isOwn_kind {s s' : SV} (h : kind s = kind s') : isOwn s = isOwn s' := by unfold isOwn; rw [h]
theorem ownAt_same {ρ ρ' : En} {σ : L2.St} (h : SameK ρ ρ') {i : Nat} {a : Addr} (o : OwnAt ρ' σ i a) : OwnAt ρ σ i a := by
  obtain ⟨⟨sv, h1, h2⟩, h3⟩ := o
  have q := h.at i
  rw [h1] at q
  cases e : ρ[i]? with
  | none => rw [e] at q; cases q
  | some s =>
    rw [e] at q
    have q' : kind sv = kind s := Option.some.inj q
    exact ⟨⟨s, e, by rw [← isOwn_kind q']; exact h2⟩, h3⟩
theorem own_same {ρ ρ' : En} {σ : L2.St} (h : SameK ρ ρ') {a : Addr} (o : Own ρ' σ a) : Own ρ σ a := let ⟨i, q⟩ := o; ⟨i, ownAt_same h q⟩
theorem Stp.trans' {ρ ρ' : En} {σ : L2.St} {G H G1 H1 G2 H2 : Hp} (a : Stp (Own ρ σ) G H G1 H1) (b : Stp (Own ρ' σ) G1 H1 G2 H2) (k : SameK ρ ρ') : Stp (Own ρ σ) G H G2 H2 := a.trans b fun _ z => .inl (own_same k z)

/-- an object that is not an own one stays -/
theorem Stp.obj {O : Addr → Prop} {G H G' H' : Hp} (a : Stp O G H G' H') {p : Addr} {sv : SV} (h : ObjR G H p sv) (n : ¬ O p) : ObjR G' H' p sv := ObjR.move h a.exG (a.new p (ObjR.there h).1 (ObjR.there h).2) fun o q => a.fr p o q n
end DL
end
section
set_option maxRecDepth 100000
set_option maxHeartbeats 2000000
/-! DL2: the mirror's monad, expressions. -/
namespace DL
open PySem L2

abbrev M (α : Type) := En → Option (α × En)
def bnd {α β : Type} (m : M α) (f : α → M β) : M β := fun ρ => match m ρ with | some (a, ρ1) => f a ρ1 | none => none
def ret {α : Type} (a : α) : M α := fun ρ => some (a, ρ)
def lft {α : Type} (o : Option α) : M α := fun ρ => match o with | some a => some (a, ρ) | none => none
theorem bnd_some {α β : Type} {m : M α} {f : α → M β} {ρ : En} {r : β × En} (h : bnd m f ρ = some r) : ∃ a ρ1, m ρ = some (a, ρ1) ∧ f a ρ1 = some r := by
  unfold bnd at h
  split at h
  · exact ⟨_, _, by assumption, h⟩
  · cases h
theorem lft_some {α : Type} {o : Option α} {ρ ρ' : En} {a : α} (h : lft o ρ = some (a, ρ')) : o = some a ∧ ρ' = ρ := by
  unfold lft at h
  split at h
  · cases h; exact ⟨rfl, rfl⟩
  · cases h
theorem ret_some {α : Type} {a b : α} {ρ ρ' : En} (h : ret a ρ = some (b, ρ')) : b = a ∧ ρ' = ρ := by cases h; exact ⟨rfl, rfl⟩

/-- how a run went -/
structure Go (ρ : En) (σ : L2.St) (G H : Hp) (ρ' : En) (G' H' : Hp) : Prop where
  rel0 : Rel ρ σ G H
  rel : Rel ρ' σ G' H'
  stp : Stp (Own ρ σ) G H G' H'
  same : SameK ρ ρ'
section
variable {ρ ρ1 ρ2 : En} {σ : L2.St} {G H G1 H1 G2 H2 : Hp}
theorem Go.refl (r : Rel ρ σ G H) : Go ρ σ G H ρ G H := ⟨r, r, Stp.refl G H, SameK.refl ρ⟩
theorem Go.trans (a : Go ρ σ G H ρ1 G1 H1) (b : Go ρ1 σ G1 H1 ρ2 G2 H2) : Go ρ σ G H ρ2 G2 H2 := ⟨a.rel0, b.rel, a.stp.trans' b.stp a.same, a.same.trans b.same⟩
theorem Go.grow (a : Go ρ σ G H ρ1 G1 H1) (g : Grow G1 H1 G2 H2) : Go ρ σ G H ρ1 G2 H2 := ⟨a.rel0, a.rel.grow g, a.stp.grow g, a.same⟩
theorem Go.exG (a : Go ρ σ G H ρ1 G1 H1) : Ex G G1 := a.stp.exG
theorem Go.ex (a : Go ρ σ G H ρ1 G1 H1) : Ex G1 H1 := a.rel.ex
theorem Go.ownOld (a : Go ρ σ G H ρ1 G1 H1) {b : Addr} (o : Own ρ1 σ b) : H b ≠ none := (a.rel0.notG (own_same a.same o)).2
theorem Go.ownNe (g : Go ρ σ G H ρ1 G1 H1) {a b : Addr} (o : Own ρ1 σ b) (h0 : H a = none) : b ≠ a := fun z => g.ownOld o (by rw [z]; exact h0)
theorem Rel.setG {a : Addr} {o : HO} (r : Rel ρ σ G H) (h1 : G a = none) (h2 : H a = some o) (hn : ∀ b, Own ρ σ b → b ≠ a) : Rel ρ σ (upd G a o) H := by
  have exG : Ex G (upd G a o) := Ex.new h1
  refine ⟨fun b u e => ?_, fun i sv h => ?_, r.sep, r.len⟩
  · by_cases q : b = a
    · subst q; rw [upd_same] at e; cases e; exact h2
    · rw [upd_ne q] at e; exact r.ex b u e
  · have q := r.slot i sv h
    have mv : ∀ b, σ[i]? = some (some (.ref b)) → ObjR G H b sv → ObjR (upd G a o) H b sv := fun b hb ob =>
      ob.move exG (by rw [upd_ne (hn b ⟨i, ⟨sv, h, ob.isOwn⟩, hb⟩)]; exact ob.there.1) fun _ z => z
    cases sv with
    | no => trivial
    | imm d => obtain ⟨v, h3, h4⟩ := q; exact ⟨v, h3, Rp.ex exG _ h4⟩
    | lst p ds => obtain ⟨b, h3, h4⟩ := q; exact ⟨b, h3, mv b h3 h4⟩
    | dic p t ds => obtain ⟨b, h3, h4⟩ := q; exact ⟨b, h3, mv b h3 h4⟩
theorem Go.freeze {a : Addr} {o : HO} (g : Go ρ σ G H ρ1 G1 H1) (h0 : H a = none) (h1 : G1 a = none) (h2 : H1 a = some o) : Go ρ σ G H ρ1 (upd G1 a o) H1 :=
  ⟨g.rel0, g.rel.setG h1 h2 fun b ob => g.ownNe ob h0, ⟨g.stp.exG.trans (Ex.new h1), g.stp.fr, fun x h3 h4 => by
    rw [upd_ne (fun z => h4 (by rw [z]; exact h0))]
    exact g.stp.new x h3 h4, g.stp.live⟩, g.same⟩
end

/-! ### what is borrowed -/
inductive BR where
  | val (d : Dt)
  | own (i : Nat)
def BrR (ρ : En) (σ : L2.St) (G : Hp) (v : V) : BR → Prop
  | .val d => Rp G v d
  | .own i => σ[i]? = some (some v) ∧ ∃ sv, ρ[i]? = some sv ∧ isOwn sv = true
/-- a new object as data -/
def svD : SV → Option Dt
  | .imm d => some d
  | .lst _ ds => some (.list ds)
  | .dic _ _ kvs => some (.dict kvs)
  | _ => none
def brD (ρ : En) : BR → Option Dt
  | .val d => some d
  | .own i => match ρ[i]? with
    | some (.lst _ ds) => some (.list ds)
    | some (.dic _ _ kvs) => some (.dict kvs)
    | _ => none
/-- the top in the heap, the parts known -/
def Top (G H : Hp) (v : V) : Dt → Prop
  | .list ds => ∃ a vs, v = .ref a ∧ H a = some (.lst vs) ∧ RpAll G vs ds
  | .dict kvs => ∃ a t o, v = .ref a ∧ H a = some o ∧ DicR G t o kvs
  | d => Rp G v d
theorem Rp.top {G H : Hp} {v : V} {d : Dt} (h : Rp G v d) (e : Ex G H) : Top G H v d := by
  cases h with
  | non => exact .non
  | bl b => exact .bl b
  | int i => exact .int i
  | str x => exact .str x
  | lst h1 h2 => exact ⟨_, _, rfl, e _ _ h1, h2⟩
  | tup h1 h2 => exact .tup h1 h2
  | dicK h1 k h2 => exact ⟨_, false, _, rfl, e _ _ h1, _, rfl, k, h2⟩
  | dicT h1 k h2 => exact ⟨_, true, _, rfl, e _ _ h1, _, rfl, k, h2⟩
theorem Top.rp {G H : Hp} {v : V} : ∀ {d : Dt}, Top G H v d → Ex G H → Rp H v d
  | .none, h, e => Rp.ex e _ h
  | .bool _, h, e => Rp.ex e _ h
  | .int _, h, e => Rp.ex e _ h
  | .str _, h, e => Rp.ex e _ h
  | .list ds, h, e => by obtain ⟨a, vs, rfl, h1, h2⟩ := h; exact .lst h1 (RpAll.ex e _ h2)
  | .tuple ds, h, e => Rp.ex e _ h
  | .dict _, h, e => by obtain ⟨a, t, o, rfl, h1, h2⟩ := h; exact (h2.ex e).rp h1
theorem brTop {ρ : En} {σ : L2.St} {G H : Hp} (r : Rel ρ σ G H) {v : V} {b : BR} {d : Dt} (hb : brD ρ b = some d) (h : BrR ρ σ G v b) : Top G H v d := by
  cases b with
  | val d' => cases hb; exact Rp.top h r.ex
  | own i =>
    unfold brD at hb
    simp only at hb
    split at hb
    · rename_i p ds hi
      cases hb
      obtain ⟨h1, _⟩ := h
      obtain ⟨a, h2, h3, vs, h4, h5⟩ := r.slot i _ hi
      rw [h1] at h2
      cases h2
      exact ⟨a, vs, rfl, h4, h5⟩
    · rename_i p t kvs hi
      cases hb
      obtain ⟨h1, _⟩ := h
      obtain ⟨a, h2, h3, o, h4, h5⟩ := r.slot i _ hi
      rw [h1] at h2
      cases h2
      exact ⟨a, t, o, rfl, h4, h5⟩
    · cases hb
theorem BrR.go {ρ ρ1 : En} {σ : L2.St} {G H G1 H1 : Hp} {v : V} {b : BR} (h : BrR ρ σ G v b) (g : Go ρ σ G H ρ1 G1 H1) : BrR ρ1 σ G1 v b := by
  cases b with
  | val d => exact Rp.ex g.exG _ h
  | own i =>
    obtain ⟨h1, sv, h2, h3⟩ := h
    refine ⟨h1, ?_⟩
    have q := g.same.at i
    rw [h2] at q
    cases e : ρ1[i]? with
    | none => rw [e] at q; cases q
    | some s =>
      rw [e] at q
      exact ⟨s, rfl, by rw [isOwn_kind (Option.some.inj q)]; exact h3⟩
inductive BrAll (ρ : En) (σ : L2.St) (G : Hp) : List V → List BR → Prop
  | nil : BrAll ρ σ G [] []
  | cons {v : V} {vs : List V} {b : BR} {bs : List BR} : BrR ρ σ G v b → BrAll ρ σ G vs bs → BrAll ρ σ G (v :: vs) (b :: bs)
theorem BrAll.go {ρ ρ1 : En} {σ : L2.St} {G H G1 H1 : Hp} (g : Go ρ σ G H ρ1 G1 H1) : ∀ {vs : List V} {bs : List BR}, BrAll ρ σ G vs bs → BrAll ρ1 σ G1 vs bs
  | _, _, .nil => .nil
  | _, _, .cons h t => .cons (h.go g) (BrAll.go g t)
def vals : List BR → Option (List Dt)
  | [] => some []
  | .val d :: r => (vals r).map (d :: ·)
  | .own _ :: _ => none
theorem BrAll.vals {ρ : En} {σ : L2.St} {G : Hp} : ∀ {vs : List V} {bs : List BR} {ds : List Dt}, BrAll ρ σ G vs bs → DL.vals bs = some ds → RpAll G vs ds
  | _, _, _, .nil, h => by cases h; exact .nil
  | _, _, _, .cons (b := .val d) (bs := r) h t, e => by
    unfold DL.vals at e
    cases q : DL.vals r with
    | none => rw [q] at e; cases e
    | some ds' =>
      rw [q] at e
      cases e
      exact .cons h (BrAll.vals t q)
  | _, _, _, .cons (b := .own i) h t, e => by cases e

/-! ### simulations -/
def SimE (m : M Dt) (t : TE) : Prop := ∀ ρ d ρ' σ G H (Q : VK), m ρ = some (d, ρ') → Rel ρ σ G H → (∀ v G' H', Go ρ σ G H ρ' G' H' → Rp G' v d → Q v H') → t σ H Q
def SimB (m : M BR) (t : TE) : Prop := ∀ ρ b ρ' σ G H (Q : VK), m ρ = some (b, ρ') → Rel ρ σ G H → (∀ v G' H', Go ρ σ G H ρ' G' H' → BrR ρ' σ G' v b → Q v H') → t σ H Q
def SimN (m : M SV) (t : TE) : Prop := ∀ ρ sv ρ' σ G H (Q : VK), m ρ = some (sv, ρ') → Rel ρ σ G H → (∀ a G' H', Go ρ σ G H ρ' G' H' → H a = none → ObjR G' H' a sv → Q (.ref a) H') → t σ H Q
def SimT (m : M Bool) (t : TT) : Prop := ∀ ρ b ρ' σ G H (Q : Bool → Hp → Prop), m ρ = some (b, ρ') → Rel ρ σ G H → (∀ G' H', Go ρ σ G H ρ' G' H' → Q b H') → t σ H Q
def SimA (m : M (List BR)) (t : TA) : Prop := ∀ ρ bs ρ' σ G H (Q : List V → Hp → Prop), m ρ = some (bs, ρ') → Rel ρ σ G H → (∀ vs G' H', Go ρ σ G H ρ' G' H' → BrAll ρ' σ G' vs bs → Q vs H') → t σ H Q
structure DE (X : Cx) (e : Expr) (t : TE) (m : M Dt) : Prop where
  pe : PE X e t
  sim : SimE m t
structure DB (X : Cx) (e : Expr) (t : TE) (m : M BR) : Prop where
  pe : PE X e t
  sim : SimB m t
structure DN (X : Cx) (e : Expr) (t : TE) (m : M SV) : Prop where
  pe : PE X e t
  sim : SimN m t
structure DT (X : Cx) (e : Expr) (t : TT) (m : M Bool) : Prop where
  pt : PT X e t
  sim : SimT m t
structure DA (X : Cx) (es : List Expr) (t : TA) (m : M (List BR)) : Prop where
  pa : PA X es t
  sim : SimA m t

/-! ### names, constants -/
def mV (i : Nat) : M Dt := fun ρ => match ρ[i]? with
  | some (.imm d) => some (d, ρ)
  | _ => none
def mVB (i : Nat) : M BR := fun ρ => match ρ[i]? with
  | some (.imm d) => some (.val d, ρ)
  | some (.lst _ _) => some (.own i, ρ)
  | some (.dic _ _ _) => some (.own i, ρ)
  | _ => none
def mB (m : M Dt) : M BR := bnd m fun d => ret (.val d)
def mFz (m : M SV) : M Dt := bnd m fun s => lft (svD s)
section
variable {X : Cx} {e : Expr} {t : TE}
theorem sim_var {i : Nat} : SimE (mV i) (tVar i) := fun ρ d ρ' σ G H Q h r q => by
  unfold mV at h
  split at h
  · rename_i d' hi
    cases h
    obtain ⟨v, h1, h2⟩ := r.slot i _ hi
    exact ⟨v, h1, q v G H (Go.refl r) h2⟩
  · cases h
theorem sim_varB {i : Nat} : SimB (mVB i) (tVar i) := fun ρ d ρ' σ G H Q h r q => by
  unfold mVB at h
  split at h
  · rename_i d' hi
    cases h
    obtain ⟨v, h1, h2⟩ := r.slot i _ hi
    exact ⟨v, h1, q v G H (Go.refl r) h2⟩
  · rename_i p ds hi
    cases h
    obtain ⟨a, h1, h2⟩ := r.slot i _ hi
    exact ⟨_, h1, q _ G H (Go.refl r) ⟨h1, _, hi, h2.isOwn⟩⟩
  · rename_i p ds hi
    cases h
    obtain ⟨a, h1, h2⟩ := r.slot i _ hi
    exact ⟨_, h1, q _ G H (Go.refl r) ⟨h1, _, hi, h2.isOwn⟩⟩
  · cases h
theorem de_var (i : Nat) {x : Str} {pos : Pos} (hN : X.N[i]? = some x := by rfl) (hv : Vis X.env.scope x := by first | exact Or.inl rfl | exact Or.inr (Or.inl rfl) | exact Or.inr (Or.inr rfl)) (hd : (x == ("__debug__" : Str)) = false := by decide)
    (hcd : (x == ("__classdict__" : Str)) = false := by decide) : DE X (.Name x pos) (tVar i) (mV i) := ⟨pe_var hN hv hd hcd, sim_var⟩
theorem db_var (i : Nat) {x : Str} {pos : Pos} (hN : X.N[i]? = some x := by rfl) (hv : Vis X.env.scope x := by first | exact Or.inl rfl | exact Or.inr (Or.inl rfl) | exact Or.inr (Or.inr rfl)) (hd : (x == ("__debug__" : Str)) = false := by decide)
    (hcd : (x == ("__classdict__" : Str)) = false := by decide) : DB X (.Name x pos) (tVar i) (mVB i) := ⟨pe_var hN hv hd hcd, sim_varB⟩
theorem sim_c {v : V} {d : Dt} (h : ∀ G, Rp G v d) : SimE (ret d) (tC v) := fun ρ d' ρ' σ G H Q e r q => by
  obtain ⟨rfl, rfl⟩ := ret_some e
  exact q v G H (Go.refl r) (h G)
theorem de_int {i j pos} : DE X (.Constant (.int i) j pos) (tC (.int i)) (ret (.int i)) := ⟨pe_int, sim_c fun _ => .int i⟩
theorem de_bl {b j pos} : DE X (.Constant (.bool b) j pos) (tC (.bl b)) (ret (.bool b)) := ⟨pe_bl, sim_c fun _ => .bl b⟩
theorem de_non {j pos} : DE X (.Constant .none j pos) (tC .non) (ret .none) := ⟨pe_non, sim_c fun _ => .non⟩
theorem de_str {x j pos} : DE X (.Constant (.str x) j pos) (tC (.str x)) (ret (.str x)) := ⟨pe_str, sim_c fun _ => .str x⟩
theorem de_glob {x : Str} {v : V} {u : Value} {d : Dt} {pos : Pos} (hm : X.mg x = some u) (r : RelV v u) (h : ∀ G, Rp G v d) (hg : Gl X x := by rfl) (hd : (x == ("__debug__" : Str)) = false := by decide) : DE X (.Name x pos) (tC v) (ret d) := ⟨pe_glob hg hm r hd, sim_c h⟩
theorem sim_b {m : M Dt} (s : SimE m t) : SimB (mB m) t := fun ρ b ρ' σ G H Q e r q => by
  obtain ⟨d, ρ1, h1, h2⟩ := bnd_some e
  obtain ⟨rfl, rfl⟩ := ret_some h2
  exact s ρ d ρ' σ G H Q h1 r q
theorem DE.b {m : M Dt} (h : DE X e t m) : DB X e t (mB m) := ⟨h.pe, sim_b h.sim⟩
theorem sim_fz {m : M SV} (s : SimN m t) : SimE (mFz m) t := fun ρ b ρ' σ G H Q e r q => by
  obtain ⟨sv, ρ1, h1, h2⟩ := bnd_some e
  obtain ⟨h3, rfl⟩ := lft_some h2
  refine s ρ sv ρ' σ G H Q h1 r fun a G' H' g h0 ob => ?_
  cases sv with
  | no => exact ob.elim
  | imm d => exact ob.elim
  | lst p ds =>
    cases h3
    obtain ⟨k1, vs, k2, k3⟩ := ob
    exact q _ _ _ (g.freeze h0 k1 k2) (.lst upd_same (RpAll.ex (Ex.new k1) _ k3))
  | dic p t ds =>
    cases h3
    obtain ⟨k1, o, k2, k3⟩ := ob
    exact q _ _ _ (g.freeze h0 k1 k2) ((k3.ex (Ex.new k1)).rp upd_same)
theorem DN.fz {m : M SV} (h : DN X e t m) : DE X e t (mFz m) := ⟨h.pe, sim_fz h.sim⟩
end

/-! ### operators -/
def mOp (f : Dt → Dt → Option Dt) (a b : M BR) : M Dt := bnd a fun x => bnd b fun y => fun ρ => match brD ρ x, brD ρ y with
  | some p, some q => lft (f p q) ρ
  | _, _ => none
def SimO (f : Dt → Dt → Option Dt) (r : R2) : Prop := ∀ x y z G H vx vy (Q : VK), f x y = some z → Top G H vx x → Top G H vy y → Ex G H → (∀ v G' H', Grow G H G' H' → Rp G' v z → Q v H') → r vx vy H Q
theorem sim_op {f : Dt → Dt → Option Dt} {r : R2} {a b : M BR} {ta tb : TE} (o : SimO f r) (sa : SimB a ta) (sb : SimB b tb) : SimE (mOp f a b) (tOp r ta tb) := fun ρ d ρ' σ G H Q e rl q => by
  obtain ⟨x, ρ1, h1, h⟩ := bnd_some e
  obtain ⟨y, ρ2, h2, h3⟩ := bnd_some h
  split at h3
  · rename_i p p' e1 e2
    obtain ⟨h4, rfl⟩ := lft_some h3
    refine sa ρ x ρ1 σ G H _ h1 rl fun v1 G1 H1 g1 b1 => sb ρ1 y ρ' σ G1 H1 _ h2 g1.rel fun v2 G2 H2 g2 b2 => ?_
    exact o _ _ _ G2 H2 _ _ _ h4 (brTop g2.rel e1 (b1.go g2)) (brTop g2.rel e2 b2) g2.ex fun v G3 H3 g3 r3 => q v G3 H3 ((g1.trans g2).grow g3) r3
  · cases h3
theorem SimO.or {f f' : Dt → Dt → Option Dt} {r r' : R2} (o : SimO f r) (o' : SimO f' r') : SimO (fun x y => (f x y).orElse fun _ => f' x y) (fun x y H Q => r x y H Q ∨ r' x y H Q) := fun x y z G H vx vy Q e tx ty ex q => by
  have e : ((f x y).orElse fun _ => f' x y) = some z := e
  cases h : f x y with
  | none =>
    rw [h] at e
    exact .inr (o' x y z G H vx vy Q e tx ty ex q)
  | some w =>
    rw [h] at e
    cases e
    exact .inl (o x y _ G H vx vy Q h tx ty ex q)
def LIM : Nat := 1000000
theorem lim_line {n : Nat} (h : n ≤ LIM) : n ≤ sizeLine := by
  rw [sizeLine_eq]; unfold LIM at h; omega
theorem lim_lt {n : Nat} (h : n ≤ LIM) : n < sizeLine := by
  rw [sizeLine_eq]; unfold LIM at h; omega
section
variable {K : PySem.W.Frag}
def onI (C : Int → Int → Prop) [∀ i j, Decidable (C i j)] (g : Int → Int → Dt) : Dt → Dt → Option Dt
  | .int i, .int j => if C i j then some (g i j) else none
  | _, _ => none
theorem simO_I {C : Int → Int → Prop} [∀ i j, Decidable (C i j)] {g : Int → Int → Int} : SimO (onI C fun i j => .int (g i j)) (rI C fun i j => .int (g i j)) := fun x y z G H vx vy Q e tx ty ex q => by
  unfold onI at e
  split at e
  · rename_i i j
    split at e
    · rename_i c
      cases e
      cases tx
      cases ty
      exact ⟨i, j, rfl, rfl, c, q _ G H (Grow.refl ex) (.int _)⟩
    · cases e
  · cases e
theorem simO_I0 {g : Int → Int → Int} : SimO (onI (fun _ _ => True) fun i j => .int (g i j)) (rI0 fun i j => .int (g i j)) := fun x y z G H vx vy Q e tx ty ex q => by
  unfold onI at e
  split at e
  · rename_i i j
    rw [if_pos trivial] at e
    cases e
    cases tx
    cases ty
    exact ⟨i, j, rfl, rfl, q _ G H (Grow.refl ex) (.int _)⟩
  · cases e
theorem simO_B0 {g : Int → Int → Bool} : SimO (onI (fun _ _ => True) fun i j => .bool (g i j)) (rI0 fun i j => .bl (g i j)) := fun x y z G H vx vy Q e tx ty ex q => by
  unfold onI at e
  split at e
  · rename_i i j
    rw [if_pos trivial] at e
    cases e
    cases tx
    cases ty
    exact ⟨i, j, rfl, rfl, q _ G H (Grow.refl ex) (.bl _)⟩
  · cases e
def catS : Dt → Dt → Option Dt
  | .str x, .str y => if x.length + y.length ≤ LIM then some (.str (x ++ y)) else none
  | _, _ => none
def catT : Dt → Dt → Option Dt
  | .tuple x, .tuple y => if x.length + y.length ≤ LIM then some (.tuple (x ++ y)) else none
  | _, _ => none
def rStr2 : R2 := fun x y H Q => ∃ i j, x = .str i ∧ y = .str j ∧ i.length + j.length ≤ sizeLine ∧ Q (.str (i ++ j)) H
theorem simO_catS : SimO catS rStr2 := fun x y z G H vx vy Q e tx ty ex q => by
  unfold catS at e
  split at e
  · rename_i i j
    split at e
    · rename_i c
      cases e
      cases tx
      cases ty
      exact ⟨i, j, rfl, rfl, lim_line c, q _ G H (Grow.refl ex) (.str _)⟩
    · cases e
  · cases e
theorem RpAll.nil_iff {G : Hp} {vs : List V} {ds : List Dt} (r : RpAll G vs ds) : vs = [] ↔ ds = [] := by
  cases r <;> simp
theorem simO_catT : SimO catT (rCatA K) := fun x y z G H vx vy Q e tx ty ex q => by
  unfold catT at e
  split at e
  · rename_i xs ys
    split at e
    · rename_i c
      cases e
      have tx : Rp G vx (.tuple xs) := tx
      have ty : Rp G vy (.tuple ys) := ty
      obtain ⟨a, vs, rfl, h1, h2⟩ : ∃ a vs, vx = .ref a ∧ G a = some (.tup vs) ∧ RpAll G vs xs := by cases tx with | tup p q => exact ⟨_, _, rfl, p, q⟩
      obtain ⟨b, ws, rfl, h3, h4⟩ : ∃ a vs, vy = .ref a ∧ G a = some (.tup vs) ∧ RpAll G vs ys := by cases ty with | tup p q => exact ⟨_, _, rfl, p, q⟩
      refine ⟨a, b, vs, ws, rfl, rfl, SqT.of (ex _ _ h1), SqT.of (ex _ _ h3), by rw [h2.length, h4.length]; exact lim_line c, fun hx => ?_, fun hx hy => ?_, fun hx hy p hp => ?_⟩
      · subst hx
        cases h2
        exact q _ G H (Grow.refl ex) ty
      · subst hy
        cases h4
        rw [List.append_nil] at q
        exact q _ G H (Grow.refl ex) tx
      · exact q _ (upd G p (.tup (vs ++ ws))) _ (Grow.known ex hp) (.tup upd_same (RpAll.ex (Ex.new (ex.free hp)) _ (h2.append h4)))
    · cases e
  · cases e
end
end DL
end
section
set_option maxRecDepth 100000
set_option maxHeartbeats 2000000
/-! DL3: operators, comparisons, tests, displays. -/
namespace DL
open PySem L2

theorem DL.RpAll.dummy : True := trivial
section
variable {X : Cx} {a b c : Expr} {ta tb tc : TE} {ma mb mc : M BR} {pos : Pos}
/-! ### + - * // % ** -/
def rAddD (K : PySem.W.Frag) : R2 := fun x y H Q => rI0 (fun i j => .int (i + j)) x y H Q ∨ (rStr2 x y H Q ∨ rCatA K x y H Q)
def dAdd : Dt → Dt → Option Dt
  | .int i, .int j => some (.int (i + j))
  | .str x, .str y => if x.length + y.length ≤ LIM then some (.str (x ++ y)) else none
  | .tuple x, .tuple y => if x.length + y.length ≤ LIM then some (.tuple (x ++ y)) else none
  | _, _ => none
theorem op_addD : OpR X (binaryOp .Add) (rAddD X.K) := op_add.or (op_add_str.or op_catA)
theorem simO_add {K : PySem.W.Frag} : SimO dAdd (rAddD K) := fun x y z G H vx vy Q e tx ty ex q => by
  unfold dAdd at e
  split at e
  · exact .inl (simO_I0 (g := fun i j => i + j) _ _ _ G H vx vy Q (by simp [onI]; cases e; rfl) tx ty ex q)
  · exact .inr (.inl (simO_catS _ _ _ G H vx vy Q (by unfold catS; exact e) tx ty ex q))
  · exact .inr (.inr (simO_catT _ _ _ G H vx vy Q (by unfold catT; exact e) tx ty ex q))
  · cases e
theorem de_add {K : PySem.W.Frag} (ha : DB X a ta ma) (hb : DB X b tb mb) (hK : X.K = K := by rfl) : DE X (.BinOp a .Add b pos) (tOp (rAddD K) ta tb) (mOp dAdd ma mb) := by
  subst hK
  exact ⟨pe_op op_addD ha.pe hb.pe, sim_op simO_add ha.sim hb.sim⟩
def dSub : Dt → Dt → Option Dt
  | .int i, .int j => some (.int (i - j))
  | _, _ => none
theorem simO_sub : SimO dSub (rI0 fun i j => .int (i - j)) := fun x y z G H vx vy Q e tx ty ex q => by
  unfold dSub at e
  split at e
  · exact simO_I0 (g := fun i j => i - j) _ _ _ G H vx vy Q (by simp [onI]; cases e; rfl) tx ty ex q
  · cases e
theorem de_sub (ha : DB X a ta ma) (hb : DB X b tb mb) : DE X (.BinOp a .Sub b pos) (tOp (rI0 fun i j => .int (i - j)) ta tb) (mOp dSub ma mb) := ⟨pe_op op_sub ha.pe hb.pe, sim_op simO_sub ha.sim hb.sim⟩
instance (i j : Int) : Decidable (CMul i j) := by unfold CMul; exact inferInstance
instance (i j : Int) : Decidable (CDiv i j) := by unfold CDiv; exact inferInstance
instance (i j : Int) : Decidable (CPow i j) := by unfold CPow; exact inferInstance
def dMul : Dt → Dt → Option Dt := onI CMul fun i j => .int (i * j)
theorem de_mul (ha : DB X a ta ma) (hb : DB X b tb mb) : DE X (.BinOp a .Mult b pos) (tOp (rI CMul fun i j => .int (i * j)) ta tb) (mOp dMul ma mb) := ⟨pe_op op_mul ha.pe hb.pe, sim_op simO_I ha.sim hb.sim⟩
def dFdiv : Dt → Dt → Option Dt := onI CDiv fun i j => .int (i / j)
theorem de_fdiv (ha : DB X a ta ma) (hb : DB X b tb mb) : DE X (.BinOp a .FloorDiv b pos) (tOp (rI CDiv fun i j => .int (i / j)) ta tb) (mOp dFdiv ma mb) := ⟨pe_op op_fdiv ha.pe hb.pe, sim_op simO_I ha.sim hb.sim⟩
def dMod : Dt → Dt → Option Dt := onI (fun _ j => 0 < j) fun i j => .int (i % j)
theorem de_mod (ha : DB X a ta ma) (hb : DB X b tb mb) : DE X (.BinOp a .Mod b pos) (tOp (rI (fun _ j => 0 < j) fun i j => .int (i % j)) ta tb) (mOp dMod ma mb) := ⟨pe_op op_mod ha.pe hb.pe, sim_op simO_I ha.sim hb.sim⟩
def dPow : Dt → Dt → Option Dt := onI CPow fun i j => .int (i ^ j.toNat)
theorem de_pow (ha : DB X a ta ma) (hb : DB X b tb mb) : DE X (.BinOp a .Pow b pos) (tOp (rI CPow fun i j => .int (i ^ j.toNat)) ta tb) (mOp dPow ma mb) := ⟨pe_op op_pow ha.pe hb.pe, sim_op simO_I ha.sim hb.sim⟩
/-- -a -/
def mNeg (m : M Dt) : M Dt := bnd m fun d => match d with
  | .int i => ret (.int (-i))
  | _ => lft none
theorem de_neg {m : M Dt} (h : DE X a ta m) : DE X (.UnaryOp .USub a pos) (tUn (rU fun i => .int (-i)) ta) (mNeg m) := by
  refine ⟨pe_un un_neg h.pe, fun ρ d ρ' σ G H Q e rl q => ?_⟩
  obtain ⟨x, ρ1, h1, h2⟩ := bnd_some e
  split at h2
  · obtain ⟨rfl, rfl⟩ := ret_some h2
    refine h.sim ρ _ _ σ G H _ h1 rl fun v G1 H1 g1 r1 => ?_
    cases r1
    exact ⟨_, rfl, q _ G1 H1 g1 (.int _)⟩
  · cases h2

/-! ### comparisons -/
def isStrs : Dt → Dt → Bool
  | .str _, .str _ => true
  | _, _ => false
def dEq (x y : Dt) : Option Dt := if isStrs x y || (SeqAt.shaped x && SeqAt.shaped y) then some (.bool (PyData.eqv x y)) else none
def dNe (x y : Dt) : Option Dt := if isStrs x y || (SeqAt.shaped x && SeqAt.shaped y) then some (.bool (!PyData.eqv x y)) else none
def rEqA (K : PySem.W.Frag) : R2 := fun x y H Q => rEq x y H Q ∨ rEqD K x y H Q
def rNeA (K : PySem.W.Frag) : R2 := fun x y H Q => rNe x y H Q ∨ rNeD K x y H Q
theorem op_eqA {X : Cx} (hu : X.A.units + 64 < cLine) : OpR X (compareOp .Eq) (rEqA X.K) := op_eq.or (op_eqD hu)
theorem op_neA {X : Cx} (hu : X.A.units + 64 < cLine) : OpR X (compareOp .NotEq) (rNeA X.K) := op_ne.or (op_neD hu)
theorem eqv_strs (a b : Str) : PyData.eqv (.str a) (.str b) = decide (V.str a = V.str b) := by rw [dec_str]; simp [PyData.eqv]
theorem simO_eq {K : PySem.W.Frag} : SimO dEq (rEqA K) := fun x y z G H vx vy Q e tx ty ex q => by
  unfold dEq at e
  split at e
  · rename_i c
    cases e
    rw [Bool.or_eq_true] at c
    rcases c with c | c
    · unfold isStrs at c
      split at c
      · cases tx; cases ty
        refine .inl ⟨rfl, ?_⟩
        rw [← eqv_strs]
        exact q _ G H (Grow.refl ex) (.bl _)
      · cases c
    · rw [Bool.and_eq_true] at c
      exact .inr ⟨x, y, Rp.dp _ (lay_of c.1) (Top.rp tx ex), Rp.dp _ (lay_of c.2) (Top.rp ty ex), c.1, c.2, q _ G H (Grow.refl ex) (.bl _)⟩
  · cases e
theorem simO_ne {K : PySem.W.Frag} : SimO dNe (rNeA K) := fun x y z G H vx vy Q e tx ty ex q => by
  unfold dNe at e
  split at e
  · rename_i c
    cases e
    rw [Bool.or_eq_true] at c
    rcases c with c | c
    · unfold isStrs at c
      split at c
      · cases tx; cases ty
        refine .inl ⟨rfl, ?_⟩
        rw [← eqv_strs]
        exact q _ G H (Grow.refl ex) (.bl _)
      · cases c
    · rw [Bool.and_eq_true] at c
      exact .inr ⟨x, y, Rp.dp _ (lay_of c.1) (Top.rp tx ex), Rp.dp _ (lay_of c.2) (Top.rp ty ex), c.1, c.2, q _ G H (Grow.refl ex) (.bl _)⟩
  · cases e
theorem de_eq {K : PySem.W.Frag} {k : Nat} (hr : Room k X.A) (ha : DB X a ta ma) (hb : DB X b tb mb) (hK : X.K = K := by rfl) : DE X (.Compare a [.Eq] [b] pos) (tOp (rEqA K) ta tb) (mOp dEq ma mb) := by
  subst hK
  exact ⟨pe_cmpR (op_eqA hr.units) ha.pe hb.pe (nomark _), sim_op simO_eq ha.sim hb.sim⟩
theorem de_ne {K : PySem.W.Frag} {k : Nat} (hr : Room k X.A) (ha : DB X a ta ma) (hb : DB X b tb mb) (hK : X.K = K := by rfl) : DE X (.Compare a [.NotEq] [b] pos) (tOp (rNeA K) ta tb) (mOp dNe ma mb) := by
  subst hK
  exact ⟨pe_cmpR (op_neA hr.units) ha.pe hb.pe (nomark _), sim_op simO_ne ha.sim hb.sim⟩
/-- < <= > >= of ints -/
def dLt : Dt → Dt → Option Dt := onI (fun _ _ => True) fun i j => .bool (decide (i < j))
def dLe : Dt → Dt → Option Dt := onI (fun _ _ => True) fun i j => .bool (decide (i ≤ j))
def dGt : Dt → Dt → Option Dt := onI (fun _ _ => True) fun i j => .bool (decide (j < i))
def dGe : Dt → Dt → Option Dt := onI (fun _ _ => True) fun i j => .bool (decide (j ≤ i))
theorem de_lt (ha : DB X a ta ma) (hb : DB X b tb mb) : DE X (.Compare a [.Lt] [b] pos) (tOp (rI0 fun i j => .bl (decide (i < j))) ta tb) (mOp dLt ma mb) := ⟨pe_cmpR op_lt ha.pe hb.pe (nomark _), sim_op simO_B0 ha.sim hb.sim⟩
theorem de_le (ha : DB X a ta ma) (hb : DB X b tb mb) : DE X (.Compare a [.LtE] [b] pos) (tOp (rI0 fun i j => .bl (decide (i ≤ j))) ta tb) (mOp dLe ma mb) := ⟨pe_cmpR op_le ha.pe hb.pe (nomark _), sim_op simO_B0 ha.sim hb.sim⟩
theorem de_gt (ha : DB X a ta ma) (hb : DB X b tb mb) : DE X (.Compare a [.Gt] [b] pos) (tOp (rI0 fun i j => .bl (decide (j < i))) ta tb) (mOp dGt ma mb) := ⟨pe_cmpR op_gt ha.pe hb.pe (nomark _), sim_op simO_B0 ha.sim hb.sim⟩
theorem de_ge (ha : DB X a ta ma) (hb : DB X b tb mb) : DE X (.Compare a [.GtE] [b] pos) (tOp (rI0 fun i j => .bl (decide (j ≤ i))) ta tb) (mOp dGe ma mb) := ⟨pe_cmpR op_ge ha.pe hb.pe (nomark _), sim_op simO_B0 ha.sim hb.sim⟩
/-- in, not in: lists, tuples, data at any depth -/
def rInQ (K : PySem.W.Frag) (n : Bool) : R2 := fun x y H Q => ∃ d ds, Dp K H x d ∧ (Dp K H y (.list ds) ∨ Dp K H y (.tuple ds)) ∧ SeqAt.shaped d = true ∧ SeqAt.shaped (.list ds) = true ∧ Q (.bl (n ^^ ds.any fun z => PyData.eqv z d)) H
theorem op_inQ (hu : X.A.units + 65 < cLine) : OpR X (compareOp .In) (rInQ X.K false) := by
  intro pins s σ H x y v u Q I rx ry h
  obtain ⟨d, ds, hd, he, sd, se, q⟩ := h
  obtain ⟨as, r1⟩ := Dp.reads I d x v hd rx
  rw [Bool.false_xor] at q
  rcases he with he | he
  · obtain ⟨bs, r2⟩ := Dp.reads I (.list ds) y u he ry
    exact SeqAt.in_list_reads r2 r1 (SeqAt.canLay_of_shaped se) (SeqAt.canLay_of_shaped sd) (PyProof.Rows.room_in_shaped sd hu) ⟨.bl _, H, I, rfl, q⟩
  · obtain ⟨bs, r2⟩ := Dp.reads I (.tuple ds) y u he ry
    exact SeqAt.in_tuple_reads r2 r1 (SeqAt.canLay_of_shaped se) (SeqAt.canLay_of_shaped sd) (PyProof.Rows.room_in_shaped sd hu) ⟨.bl _, H, I, rfl, q⟩
theorem op_niQ (hu : X.A.units + 65 < cLine) : OpR X (compareOp .NotIn) (rInQ X.K true) := by
  intro pins s σ H x y v u Q I rx ry h
  obtain ⟨d, ds, hd, he, sd, se, q⟩ := h
  obtain ⟨as, r1⟩ := Dp.reads I d x v hd rx
  rw [Bool.true_xor] at q
  rcases he with he | he
  · obtain ⟨bs, r2⟩ := Dp.reads I (.list ds) y u he ry
    exact SeqAt.notIn_list_reads r2 r1 (SeqAt.canLay_of_shaped se) (SeqAt.canLay_of_shaped sd) (PyProof.Rows.room_in_shaped sd hu) ⟨.bl _, H, I, rfl, q⟩
  · obtain ⟨bs, r2⟩ := Dp.reads I (.tuple ds) y u he ry
    exact SeqAt.notIn_tuple_reads r2 r1 (SeqAt.canLay_of_shaped se) (SeqAt.canLay_of_shaped sd) (PyProof.Rows.room_in_shaped sd hu) ⟨.bl _, H, I, rfl, q⟩
def seqD : Dt → Option (List Dt)
  | .list ds => some ds
  | .tuple ds => some ds
  | _ => none
def dIn (n : Bool) (x y : Dt) : Option Dt := match seqD y with
  | some ds => if SeqAt.shaped x && SeqAt.shaped (.list ds) then some (.bool (n ^^ ds.any fun z => PyData.eqv z x)) else none
  | none => none
theorem simO_in {K : PySem.W.Frag} {n : Bool} : SimO (dIn n) (rInQ K n) := fun x y z G H vx vy Q e tx ty ex q => by
  unfold dIn at e
  split at e
  · rename_i ds hy
    split at e
    · rename_i c
      cases e
      rw [Bool.and_eq_true] at c
      have k := Rp.dp (K := K) y (by cases y <;> cases hy <;> first | exact lay_of c.2 | exact lay_of (d := .list ds) c.2) (Top.rp ty ex)
      refine ⟨x, ds, Rp.dp _ (lay_of c.1) (Top.rp tx ex), ?_, c.1, c.2, q _ G H (Grow.refl ex) (.bl _)⟩
      cases y <;> cases hy
      · exact .inl k
      · exact .inr k
    · cases e
  · cases e
theorem hr65 {k : Nat} {A : Around} (hr : Room k A) : A.units + 65 < cLine := by have := hr.un; omega
theorem de_in {K : PySem.W.Frag} {k : Nat} (hr : Room k X.A) (ha : DB X a ta ma) (hb : DB X b tb mb) (hm : behindInMarks .In b = false := by rfl) (hK : X.K = K := by rfl) : DE X (.Compare a [.In] [b] pos) (tOp (rInQ K false) ta tb) (mOp (dIn false) ma mb) := by
  subst hK
  exact ⟨pe_cmpR (op_inQ (hr65 hr)) ha.pe hb.pe hm, sim_op simO_in ha.sim hb.sim⟩
theorem de_ni {K : PySem.W.Frag} {k : Nat} (hr : Room k X.A) (ha : DB X a ta ma) (hb : DB X b tb mb) (hm : behindInMarks .NotIn b = false := by rfl) (hK : X.K = K := by rfl) : DE X (.Compare a [.NotIn] [b] pos) (tOp (rInQ K true) ta tb) (mOp (dIn true) ma mb) := by
  subst hK
  exact ⟨pe_cmpR (op_niQ (hr65 hr)) ha.pe hb.pe hm, sim_op simO_in ha.sim hb.sim⟩
/-- is None, is not None -/
def isNoneD : Dt → Bool
  | .none => true
  | _ => false
def mIsN (n : Bool) (m : M Dt) : M Dt := bnd m fun d => ret (.bool (n ^^ isNoneD d))
theorem Rp.isNone {G : Hp} {v : V} {d : Dt} (h : Rp G v d) : decide (v = .non) = isNoneD d := by
  cases h <;> simp [isNoneD]
theorem de_isN {m : M Dt} {j pos'} (h : DE X a ta m) : DE X (.Compare a [.Is] [.Constant .none j pos'] pos) (tIsN ta) (mIsN false m) := by
  refine ⟨pe_cmp (pc_isN h.pe) rfl, fun ρ d ρ' σ G H Q e rl q => ?_⟩
  obtain ⟨x, ρ1, h1, h2⟩ := bnd_some e
  obtain ⟨rfl, rfl⟩ := ret_some h2
  refine h.sim ρ _ _ σ G H _ h1 rl fun v G1 H1 g1 r1 => ?_
  rw [r1.isNone]
  rw [Bool.false_xor] at q
  exact q _ G1 H1 g1 (.bl _)
theorem de_notN {m : M Dt} {j pos'} (h : DE X a ta m) : DE X (.Compare a [.IsNot] [.Constant .none j pos'] pos) (tNotN ta) (mIsN true m) := by
  refine ⟨pe_cmp (pc_notN h.pe) rfl, fun ρ d ρ' σ G H Q e rl q => ?_⟩
  obtain ⟨x, ρ1, h1, h2⟩ := bnd_some e
  obtain ⟨rfl, rfl⟩ := ret_some h2
  refine h.sim ρ _ _ σ G H _ h1 rl fun v G1 H1 g1 r1 => ?_
  rw [r1.isNone]
  rw [Bool.true_xor] at q
  exact q _ G1 H1 g1 (.bl _)

/-! ### tests -/
def mTst (m : M Dt) : M Bool := bnd m fun d => match d with
  | .bool b => ret b
  | _ => lft none
theorem sim_tst {m : M Dt} {t : TE} (s : SimE m t) : SimT (mTst m) (tB t) := fun ρ b ρ' σ G H Q e rl q => by
  obtain ⟨x, ρ1, h1, h2⟩ := bnd_some e
  split at h2
  · obtain ⟨rfl, rfl⟩ := ret_some h2
    refine s ρ _ _ σ G H _ h1 rl fun v G1 H1 g1 r1 => ?_
    cases r1
    exact ⟨_, rfl, q G1 H1 g1⟩
  · cases h2
/-- a bool's test (no comparison, no and, or, not) -/
theorem dt_val {m : M Dt} (h : DE X a ta m) (he : ∀ whole, isTrue a X.env whole = (do let v ← whole; standAt a.pos; holding [v] (truthy v)) := by intro _; rfl) : DT X a (tB ta) (mTst m) := ⟨pt_val h.pe he, sim_tst h.sim⟩
def mAnd (a b : M Bool) : M Bool := bnd a fun c => if c then b else ret false
def mOr (a b : M Bool) : M Bool := bnd a fun c => if c then ret true else b
def mNot (a : M Bool) : M Bool := bnd a fun c => ret (!c)
theorem sim_and {a b : M Bool} {t u : TT} (sa : SimT a t) (sb : SimT b u) : SimT (mAnd a b) (tAnd t u) := fun ρ d ρ' σ G H Q e rl q => by
  obtain ⟨c, ρ1, h1, h2⟩ := bnd_some e
  refine sa ρ c ρ1 σ G H _ h1 rl fun G1 H1 g1 => ?_
  cases c with
  | true => exact sb ρ1 d ρ' σ G1 H1 _ h2 g1.rel fun G2 H2 g2 => q G2 H2 (g1.trans g2)
  | false =>
    obtain ⟨rfl, rfl⟩ := ret_some h2
    exact q G1 H1 g1
theorem sim_or {a b : M Bool} {t u : TT} (sa : SimT a t) (sb : SimT b u) : SimT (mOr a b) (tOr t u) := fun ρ d ρ' σ G H Q e rl q => by
  obtain ⟨c, ρ1, h1, h2⟩ := bnd_some e
  refine sa ρ c ρ1 σ G H _ h1 rl fun G1 H1 g1 => ?_
  cases c with
  | false => exact sb ρ1 d ρ' σ G1 H1 _ h2 g1.rel fun G2 H2 g2 => q G2 H2 (g1.trans g2)
  | true =>
    obtain ⟨rfl, rfl⟩ := ret_some h2
    exact q G1 H1 g1
theorem sim_not {a : M Bool} {t : TT} (sa : SimT a t) : SimT (mNot a) (tNot t) := fun ρ d ρ' σ G H Q e rl q => by
  obtain ⟨c, ρ1, h1, h2⟩ := bnd_some e
  obtain ⟨rfl, rfl⟩ := ret_some h2
  exact sa ρ c _ σ G H _ h1 rl fun G1 H1 g1 => q G1 H1 g1
structure DW (X : Cx) (e : Expr) (t : TT) (m : M Bool) : Prop where
  pw : PW X e t
  sim : SimT m t
theorem DW.t {e : Expr} {t : TT} {m : M Bool} (h : DW X e t m) : DT X e t m := ⟨h.pw.pt, h.sim⟩
variable {tt tu : TT} {nt nu : M Bool} {rest : List Expr}
theorem dw_and1 (h : DT X a tt nt) : DW X (.BoolOp .And [a] pos) tt nt := ⟨pw_and1 h.pt, h.sim⟩
theorem dw_or1 (h : DT X a tt nt) : DW X (.BoolOp .Or [a] pos) tt nt := ⟨pw_or1 h.pt, h.sim⟩
theorem dw_and (h : DT X a tt nt) (h' : DW X (.BoolOp .And (b :: rest) pos) tu nu) : DW X (.BoolOp .And (a :: b :: rest) pos) (tAnd tt tu) (mAnd nt nu) := ⟨pw_and h.pt h'.pw, sim_and h.sim h'.sim⟩
theorem dw_or (h : DT X a tt nt) (h' : DW X (.BoolOp .Or (b :: rest) pos) tu nu) : DW X (.BoolOp .Or (a :: b :: rest) pos) (tOr tt tu) (mOr nt nu) := ⟨pw_or h.pt h'.pw, sim_or h.sim h'.sim⟩
theorem dt_not (h : DT X a tt nt) : DT X (.UnaryOp .Not a pos) (tNot tt) (mNot nt) := ⟨pt_not h.pt, sim_not h.sim⟩
theorem tTest_eq (t : TE) : tTest t = tB t := rfl
/-- a comparison as a test: from its value's rule -/
theorem dt_cmp {op : CmpOp} {r : R2} {m : M Dt} (ho : OpR X (compareOp op) r) (ha : PE X a ta) (hb : PE X b tb) (hm : behindInMarks op b = false) (s : SimE m (tOp r ta tb)) : DT X (.Compare a [op] [b] pos) (tB (tOp r ta tb)) (mTst m) := ⟨pt_cmpR ho ha hb hm, sim_tst s⟩
theorem dt_eq {K : PySem.W.Frag} {k : Nat} (hr : Room k X.A) (ha : DB X a ta ma) (hb : DB X b tb mb) (hK : X.K = K := by rfl) : DT X (.Compare a [.Eq] [b] pos) (tB (tOp (rEqA K) ta tb)) (mTst (mOp dEq ma mb)) := by
  subst hK
  exact dt_cmp (op_eqA hr.units) ha.pe hb.pe (nomark _) (sim_op simO_eq ha.sim hb.sim)
theorem dt_ne {K : PySem.W.Frag} {k : Nat} (hr : Room k X.A) (ha : DB X a ta ma) (hb : DB X b tb mb) (hK : X.K = K := by rfl) : DT X (.Compare a [.NotEq] [b] pos) (tB (tOp (rNeA K) ta tb)) (mTst (mOp dNe ma mb)) := by
  subst hK
  exact dt_cmp (op_neA hr.units) ha.pe hb.pe (nomark _) (sim_op simO_ne ha.sim hb.sim)
theorem dt_lt (ha : DB X a ta ma) (hb : DB X b tb mb) : DT X (.Compare a [.Lt] [b] pos) (tB (tOp (rI0 fun i j => .bl (decide (i < j))) ta tb)) (mTst (mOp dLt ma mb)) := dt_cmp op_lt ha.pe hb.pe (nomark _) (sim_op simO_B0 ha.sim hb.sim)
theorem dt_le (ha : DB X a ta ma) (hb : DB X b tb mb) : DT X (.Compare a [.LtE] [b] pos) (tB (tOp (rI0 fun i j => .bl (decide (i ≤ j))) ta tb)) (mTst (mOp dLe ma mb)) := dt_cmp op_le ha.pe hb.pe (nomark _) (sim_op simO_B0 ha.sim hb.sim)
theorem dt_gt (ha : DB X a ta ma) (hb : DB X b tb mb) : DT X (.Compare a [.Gt] [b] pos) (tB (tOp (rI0 fun i j => .bl (decide (j < i))) ta tb)) (mTst (mOp dGt ma mb)) := dt_cmp op_gt ha.pe hb.pe (nomark _) (sim_op simO_B0 ha.sim hb.sim)
theorem dt_ge (ha : DB X a ta ma) (hb : DB X b tb mb) : DT X (.Compare a [.GtE] [b] pos) (tB (tOp (rI0 fun i j => .bl (decide (j ≤ i))) ta tb)) (mTst (mOp dGe ma mb)) := dt_cmp op_ge ha.pe hb.pe (nomark _) (sim_op simO_B0 ha.sim hb.sim)
theorem dt_in {K : PySem.W.Frag} {k : Nat} (hr : Room k X.A) (ha : DB X a ta ma) (hb : DB X b tb mb) (hm : behindInMarks .In b = false := by rfl) (hK : X.K = K := by rfl) : DT X (.Compare a [.In] [b] pos) (tB (tOp (rInQ K false) ta tb)) (mTst (mOp (dIn false) ma mb)) := by
  subst hK
  exact dt_cmp (op_inQ (hr65 hr)) ha.pe hb.pe hm (sim_op simO_in ha.sim hb.sim)
theorem dt_ni {K : PySem.W.Frag} {k : Nat} (hr : Room k X.A) (ha : DB X a ta ma) (hb : DB X b tb mb) (hm : behindInMarks .NotIn b = false := by rfl) (hK : X.K = K := by rfl) : DT X (.Compare a [.NotIn] [b] pos) (tB (tOp (rInQ K true) ta tb)) (mTst (mOp (dIn true) ma mb)) := by
  subst hK
  exact dt_cmp (op_niQ (hr65 hr)) ha.pe hb.pe hm (sim_op simO_in ha.sim hb.sim)
theorem dt_isN {m : M Dt} {j pos'} (h : DE X a ta m) : DT X (.Compare a [.Is] [.Constant .none j pos'] pos) (tB (tIsN ta)) (mTst (mIsN false m)) := ⟨pt_cmp (pc_isN h.pe) rfl, sim_tst (de_isN (j := j) (pos' := pos') (pos := pos) h).sim⟩
theorem dt_notN {m : M Dt} {j pos'} (h : DE X a ta m) : DT X (.Compare a [.IsNot] [.Constant .none j pos'] pos) (tB (tNotN ta)) (mTst (mIsN true m)) := ⟨pt_cmp (pc_notN h.pe) rfl, sim_tst (de_notN (j := j) (pos' := pos') (pos := pos) h).sim⟩

/-! ### and, or, not, if as values -/
def mAndV (a b : M Dt) : M Dt := bnd a fun d => match d with
  | .bool true => b
  | .bool false => ret (.bool false)
  | _ => lft none
def mOrV (a b : M Dt) : M Dt := bnd a fun d => match d with
  | .bool false => b
  | .bool true => ret (.bool true)
  | _ => lft none
def mNotV (a : M Dt) : M Dt := bnd a fun d => match d with
  | .bool b => ret (.bool (!b))
  | _ => lft none
variable {na nb : M Dt}
theorem de_one {op} {t : TE} (h : DE X a t na) : DE X (.BoolOp op [a] pos) t na := ⟨pe_one h.pe, h.sim⟩
theorem de_and (ha : DE X a ta na) (hb : DE X (.BoolOp .And (b :: rest) pos) tb nb) : DE X (.BoolOp .And (a :: b :: rest) pos) (tAndV ta tb) (mAndV na nb) := by
  refine ⟨pe_and ha.pe hb.pe, fun ρ d ρ' σ G H Q e rl q => ?_⟩
  obtain ⟨x, ρ1, h1, h2⟩ := bnd_some e
  split at h2
  · refine ha.sim ρ _ _ σ G H _ h1 rl fun v G1 H1 g1 r1 => ?_
    cases r1
    exact ⟨true, rfl, hb.sim _ _ _ σ G1 H1 _ h2 g1.rel fun v2 G2 H2 g2 r2 => q v2 G2 H2 (g1.trans g2) r2⟩
  · obtain ⟨rfl, rfl⟩ := ret_some h2
    refine ha.sim ρ _ _ σ G H _ h1 rl fun v G1 H1 g1 r1 => ?_
    cases r1
    exact ⟨false, rfl, q _ G1 H1 g1 (.bl false)⟩
  · cases h2
theorem de_or (ha : DE X a ta na) (hb : DE X (.BoolOp .Or (b :: rest) pos) tb nb) : DE X (.BoolOp .Or (a :: b :: rest) pos) (tOrV ta tb) (mOrV na nb) := by
  refine ⟨pe_or ha.pe hb.pe, fun ρ d ρ' σ G H Q e rl q => ?_⟩
  obtain ⟨x, ρ1, h1, h2⟩ := bnd_some e
  split at h2
  · refine ha.sim ρ _ _ σ G H _ h1 rl fun v G1 H1 g1 r1 => ?_
    cases r1
    exact ⟨false, rfl, hb.sim _ _ _ σ G1 H1 _ h2 g1.rel fun v2 G2 H2 g2 r2 => q v2 G2 H2 (g1.trans g2) r2⟩
  · obtain ⟨rfl, rfl⟩ := ret_some h2
    refine ha.sim ρ _ _ σ G H _ h1 rl fun v G1 H1 g1 r1 => ?_
    cases r1
    exact ⟨true, rfl, q _ G1 H1 g1 (.bl true)⟩
  · cases h2
theorem de_not (ha : DE X a ta na) : DE X (.UnaryOp .Not a pos) (tNotV ta) (mNotV na) := by
  refine ⟨pe_not ha.pe, fun ρ d ρ' σ G H Q e rl q => ?_⟩
  obtain ⟨x, ρ1, h1, h2⟩ := bnd_some e
  split at h2
  · obtain ⟨rfl, rfl⟩ := ret_some h2
    refine ha.sim ρ _ _ σ G H _ h1 rl fun v G1 H1 g1 r1 => ?_
    cases r1
    exact ⟨_, rfl, q _ G1 H1 g1 (.bl _)⟩
  · cases h2
def mIf {α : Type} (c : M Bool) (a b : M α) : M α := bnd c fun k => if k then a else b
theorem de_if (hc : DT X c tt nt) (ha : DE X a ta na) (hb : DE X b tb nb) : DE X (.IfExp c a b pos) (tIf tt ta tb) (mIf nt na nb) := by
  refine ⟨pe_ifExp hc.pt ha.pe hb.pe, fun ρ d ρ' σ G H Q e rl q => ?_⟩
  obtain ⟨k, ρ1, h1, h2⟩ := bnd_some e
  refine hc.sim ρ k ρ1 σ G H _ h1 rl fun G1 H1 g1 => ?_
  cases k with
  | true => exact ha.sim _ _ _ σ G1 H1 _ h2 g1.rel fun v2 G2 H2 g2 r2 => q v2 G2 H2 (g1.trans g2) r2
  | false => exact hb.sim _ _ _ σ G1 H1 _ h2 g1.rel fun v2 G2 H2 g2 r2 => q v2 G2 H2 (g1.trans g2) r2
theorem db_if (hc : DT X c tt nt) (ha : DB X a ta ma) (hb : DB X b tb mb) : DB X (.IfExp c a b pos) (tIf tt ta tb) (mIf nt ma mb) := by
  refine ⟨pe_ifExp hc.pt ha.pe hb.pe, fun ρ d ρ' σ G H Q e rl q => ?_⟩
  obtain ⟨k, ρ1, h1, h2⟩ := bnd_some e
  refine hc.sim ρ k ρ1 σ G H _ h1 rl fun G1 H1 g1 => ?_
  cases k with
  | true => exact ha.sim _ _ _ σ G1 H1 _ h2 g1.rel fun v2 G2 H2 g2 r2 => q v2 G2 H2 (g1.trans g2) r2
  | false => exact hb.sim _ _ _ σ G1 H1 _ h2 g1.rel fun v2 G2 H2 g2 r2 => q v2 G2 H2 (g1.trans g2) r2
theorem dn_if {sa sb : M SV} (hc : DT X c tt nt) (ha : DN X a ta sa) (hb : DN X b tb sb) : DN X (.IfExp c a b pos) (tIf tt ta tb) (mIf nt sa sb) := by
  refine ⟨pe_ifExp hc.pt ha.pe hb.pe, fun ρ d ρ' σ G H Q e rl q => ?_⟩
  obtain ⟨k, ρ1, h1, h2⟩ := bnd_some e
  have fr : ∀ {x : Addr} {H1 : Hp}, H x = none ∨ H1 x ≠ none ∨ True := fun {_ _} => .inr (.inr trivial)
  refine hc.sim ρ k ρ1 σ G H _ h1 rl fun G1 H1 g1 => ?_
  have back : ∀ x, H1 x = none → H x = none := fun x hx => by
    cases z : H x with
    | none => rfl
    | some o => exact absurd hx (g1.stp.live x (by rw [z]; exact fun w => nomatch w))
  cases k with
  | true => exact ha.sim _ _ _ σ G1 H1 _ h2 g1.rel fun v2 G2 H2 g2 r2 r3 => q v2 G2 H2 (g1.trans g2) (back _ r2) r3
  | false => exact hb.sim _ _ _ σ G1 H1 _ h2 g1.rel fun v2 G2 H2 g2 r2 r3 => q v2 G2 H2 (g1.trans g2) (back _ r2) r3
theorem Go.back {ρ ρ1 : En} {σ : L2.St} {G H G1 H1 : Hp} (g : Go ρ σ G H ρ1 G1 H1) {x : Addr} (hx : H1 x = none) : H x = none := by
  cases z : H x with
  | none => rfl
  | some o => exact absurd hx (g.stp.live x (by rw [z]; exact fun w => nomatch w))

/-! ### arguments -/
def mNil : M (List BR) := ret []
def mCons (a : M BR) (r : M (List BR)) : M (List BR) := bnd a fun x => bnd r fun xs => ret (x :: xs)
theorem da_nil : DA X [] tNil mNil := ⟨pa_nil, fun ρ d ρ' σ G H Q e rl q => by
  obtain ⟨rfl, rfl⟩ := ret_some e
  exact q [] G H (Go.refl rl) .nil⟩
theorem da_cons {es : List Expr} {t : TA} {mr : M (List BR)} (ha : DB X a ta ma) (hr : DA X es t mr) (hs : starEach (a :: es) X.env = (false, eval a X.env) :: starEach es X.env := by rfl) : DA X (a :: es) (tCons ta t) (mCons ma mr) :=
  ⟨pa_cons ha.pe hr.pa hs, fun ρ d ρ' σ G H Q e rl q => by
    obtain ⟨x, ρ1, h1, h⟩ := bnd_some e
    obtain ⟨xs, ρ2, h2, h3⟩ := bnd_some h
    obtain ⟨rfl, rfl⟩ := ret_some h3
    refine ha.sim ρ x ρ1 σ G H _ h1 rl fun v G1 H1 g1 b1 => hr.sim ρ1 xs _ σ G1 H1 _ h2 g1.rel fun vs G2 H2 g2 b2 => ?_
    exact q _ G2 H2 (g1.trans g2) (.cons (b1.go g2) b2)⟩
/-- *xs -/
def tStar (K : PySem.W.Frag) (te : TE) (t : TA) : TA := fun σ H Q => te σ H fun x H1 => ∃ p xs, x = .ref p ∧ (SqL K H1 p xs ∨ SqT K H1 p xs) ∧ t σ H1 fun ys H2 => Q (xs ++ ys) H2
theorem star_of {pins : List (Addr × Obj)} {σ : L2.St} {H : Hp} {s : Shared} {p : Addr} {xs : List V} {Q : List Value → Shared → Prop} {E : Value → Shared → Prop} (I : Inv X pins σ H s) (h : SqL X.K H p xs ∨ SqT X.K H p xs)
    (q : ∀ us h', Vals xs us → Inv X pins σ H { s with heap := h' } → Q us { s with heap := h' }) : PySem.W.StarOf (model X.prog X.w) X.A E (.ref p) Q s := by
  have z : ∀ {o : Obj} {T : String} {its : List Value} {n : Nat}, s.heap.get? p = some o → o.cls = .type T → o.data = .seq its.toArray n → T = "list" ∨ T = "tuple" → Vals xs its → xs.length ≤ sizeLine → PySem.W.StarOf (model X.prog X.w) X.A E (.ref p) Q s := by
    intro o T its n ho hc hd hT rv hz
    have hT' : s.TypeIs (.ref p) T := ⟨o, ho, hc⟩
    have z : wpAny (model X.prog X.w) X.A (collect (.ref p)) Q E s := by
      have e : its.toArray.toList = its := by simp
      have := wpAny_collect_seq (prog := X.prog) (w := X.w) (A := X.A) (E := E) (Q := Q) (s := s) p hT ho hc hd (fun h' hk => by rw [e]; exact q its h' rv (I.kept (t' := s.toks) fun b ob k => hk b ob k)) (by simp; have := rv.length; omega)
      exact this
    unfold PySem.W.StarOf notIterableAtAll
    rcases hT with rfl | rfl
    · exact wpAny_bind (wpAny_specialOf hT' PySem.F.slot_list_iter.lookup (wpAny_pure ⟨rfl, z⟩))
    · exact wpAny_bind (wpAny_specialOf hT' PySem.F.slot_tuple_iter.lookup (wpAny_pure ⟨rfl, z⟩))
  rcases h with h | h
  · obtain ⟨its, rv, ⟨o, n, ho, hc, hd, hdt⟩, hz⟩ := I.list h
    exact z ho hc hdt (.inl rfl) rv hz
  · obtain ⟨its, rv, ⟨o, ho, hc, n, hdt⟩, hz⟩ := I.tuple h
    exact z ho hc hdt (.inr rfl) rv hz
theorem pa_star {es : List Expr} {t : TA} {p : Pos} (ha : PE X a ta) (hr : PA X es t) (hs : starEach (.Starred a p :: es) X.env = (true, eval a X.env) :: starEach es X.env := by rfl) : PA X (.Starred a p :: es) (tStar X.K ta t) := by
  refine ⟨fun pos pins s σ H Q I h => ?_⟩
  refine PySem.W.items_star (thn (ha.run pins s σ H _ I h) fun u s1 ⟨x, H1, I1, r1, q1⟩ => ?_) hs
  obtain ⟨ad, xs, rfl, hx, q⟩ := q1
  cases r1
  refine star_of I1 hx fun us h' rv I2 => ?_
  exact thn (hr.run pos pins _ σ H1 _ I2 q) fun ws s2 ⟨ys, H2, I3, r2, q2⟩ => ⟨xs ++ ys, H2, I3, rv.append r2, q2⟩
def mStar (a : M BR) (r : M (List BR)) : M (List BR) := bnd a fun x => fun ρ => match (brD ρ x).bind seqD with
  | some ds => (bnd r fun xs => ret (ds.map BR.val ++ xs)) ρ
  | none => none
theorem brAll_vals {ρ : En} {σ : L2.St} {G : Hp} : ∀ {vs : List V} {ds : List Dt}, RpAll G vs ds → BrAll ρ σ G vs (ds.map BR.val)
  | _, _, .nil => .nil
  | _, _, .cons h t => .cons h (brAll_vals t)
theorem BrAll.append {ρ : En} {σ : L2.St} {G : Hp} : ∀ {vs ws : List V} {bs cs : List BR}, BrAll ρ σ G vs bs → BrAll ρ σ G ws cs → BrAll ρ σ G (vs ++ ws) (bs ++ cs)
  | _, _, _, _, .nil, s => s
  | _, _, _, _, .cons h t, s => .cons h (BrAll.append t s)
theorem Top.seq {K : PySem.W.Frag} {G H : Hp} {v : V} {d : Dt} {ds : List Dt} (t : Top G H v d) (ex : Ex G H) (h : seqD d = some ds) : ∃ p vs, v = .ref p ∧ (SqL K H p vs ∨ SqT K H p vs) ∧ RpAll G vs ds := by
  cases d <;> cases h
  · obtain ⟨p, vs, rfl, h1, h2⟩ := t
    exact ⟨p, vs, rfl, .inl (SqL.of h1), h2⟩
  · have t : Rp G v (.tuple ds) := t
    cases t with
    | tup h1 h2 => exact ⟨_, _, rfl, .inr (SqT.of (ex _ _ h1)), h2⟩
theorem da_star {K : PySem.W.Frag} {es : List Expr} {t : TA} {mr : M (List BR)} {p : Pos} (ha : DB X a ta ma) (hr : DA X es t mr) (hs : starEach (.Starred a p :: es) X.env = (true, eval a X.env) :: starEach es X.env := by rfl) (hK : X.K = K := by rfl) : DA X (.Starred a p :: es) (tStar K ta t) (mStar ma mr) := by
  subst hK
  exact ⟨pa_star ha.pe hr.pa hs, fun ρ d ρ' σ G H Q e rl q => by
      obtain ⟨x, ρ1, h1, h⟩ := bnd_some e
      split at h
      · rename_i ds hd
        obtain ⟨xs, ρ2, h2, h3⟩ := bnd_some h
        obtain ⟨rfl, rfl⟩ := ret_some h3
        refine ha.sim ρ x ρ1 σ G H _ h1 rl fun v G1 H1 g1 b1 => ?_
        cases e1 : brD ρ1 x with
        | none => rw [e1] at hd; cases hd
        | some d1 =>
          rw [e1] at hd
          obtain ⟨p', vs, rfl, k1, k2⟩ := (brTop g1.rel e1 b1).seq (K := X.K) g1.ex hd
          refine ⟨p', vs, rfl, k1, hr.sim ρ1 xs _ σ G1 H1 _ h2 g1.rel fun ws G2 H2 g2 b2 => ?_⟩
          exact q _ G2 H2 (g1.trans g2) (BrAll.append (brAll_vals (RpAll.ex g2.exG _ k2)) b2)
      · cases h⟩

/-! ### displays -/
def mTup (m : M (List BR)) : M Dt := bnd m fun bs => lft ((vals bs).bind fun ds => if ds.length ≤ LIM then some (.tuple ds) else none)
def mLst (m : M (List BR)) : M SV := bnd m fun bs => lft ((vals bs).bind fun ds => if ds.length ≤ LIM then some (.lst false ds) else none)
theorem de_tup {es : List Expr} {t : TA} {m : M (List BR)} {x1} (h : DA X es t m) : DE X (.Tuple es x1 pos) (tTup t) (mTup m) := by
  refine ⟨pe_tup h.pa, fun ρ d ρ' σ G H Q e rl q => ?_⟩
  obtain ⟨bs, ρ1, h1, h2⟩ := bnd_some e
  obtain ⟨h3, rfl⟩ := lft_some h2
  cases e1 : vals bs with
  | none => rw [e1] at h3; cases h3
  | some ds =>
    rw [e1] at h3
    have h3 : (if ds.length ≤ LIM then some (PyData.tuple ds) else none) = some d := h3
    split at h3
    · rename_i c
      cases h3
      refine h.sim ρ bs _ σ G H _ h1 rl fun vs G1 H1 g1 b1 => ?_
      have k := b1.vals e1
      exact ⟨by rw [k.length]; exact lim_line c, fun p hp => q _ (upd G1 p (.tup vs)) _ (g1.grow (Grow.known g1.ex hp)) (.tup upd_same (RpAll.ex (Ex.new (g1.ex.free hp)) _ k))⟩
    · cases h3
theorem dn_lst {es : List Expr} {t : TA} {m : M (List BR)} (h : DA X es t m) : DN X (.List es pos) (tLst t) (mLst m) := by
  refine ⟨pe_lst h.pa, fun ρ d ρ' σ G H Q e rl q => ?_⟩
  obtain ⟨bs, ρ1, h1, h2⟩ := bnd_some e
  obtain ⟨h3, rfl⟩ := lft_some h2
  cases e1 : vals bs with
  | none => rw [e1] at h3; cases h3
  | some ds =>
    rw [e1] at h3
    have h3 : (if ds.length ≤ LIM then some (SV.lst false ds) else none) = some d := h3
    split at h3
    · rename_i c
      cases h3
      refine h.sim ρ bs _ σ G H _ h1 rl fun vs G1 H1 g1 b1 => ?_
      have k := b1.vals e1
      exact ⟨by rw [k.length]; exact lim_line c, fun p hp => q _ G1 _ (g1.grow (Grow.unknown g1.ex hp)) (g1.back hp) ⟨g1.ex.free hp, vs, upd_same, k⟩⟩
    · cases h3
end
end DL
end
section
set_option maxRecDepth 100000
set_option maxHeartbeats 2000000
/-! DL4: subscripts, slices, built-in calls, calls of defs. -/
namespace DL
open PySem L2
section
variable {X : Cx} {a b c : Expr} {ta tb tc : TE} {ma mb mc : M BR} {pos p2 : Pos} {K : PySem.W.Frag}
/-! ### x[i] -/
def dIx : Dt → Dt → Option Dt
  | .list ds, .int i => atI ds i
  | .tuple ds, .int i => atI ds i
  | .str x, .int i => if x.length ≤ LIM then (atI x.cps.toList i).map fun c => .str ⟨#[c]⟩ else none
  | _, _ => none
theorem atI_rp {G : Hp} {vs : List V} {ds : List Dt} (r : RpAll G vs ds) {i : Int} {d : Dt} (h : atI ds i = some d) : ∃ v, atI vs i = some v ∧ Rp G v d := by
  unfold atI at h ⊢
  rw [← r.length] at h
  cases e : ixN vs.length i with
  | none => rw [e] at h; cases h
  | some j =>
    rw [e] at h
    obtain ⟨v, h1, h2⟩ := r.get (show ds[j]? = some d from h)
    exact ⟨v, h1, h2⟩
theorem simO_ix : SimO dIx (rIx K) := fun x y z G H vx vy Q e tx ty ex q => by
  unfold dIx at e
  split at e
  · obtain ⟨p, vs, rfl, h1, h2⟩ := tx
    cases ty
    obtain ⟨v, h3, h4⟩ := atI_rp h2 e
    exact .inl ⟨p, vs, _, v, rfl, rfl, SqL.of h1, h3, q v G H (Grow.refl ex) h4⟩
  · rename_i ds i
    have tx : Rp G vx (.tuple ds) := tx
    cases tx with
    | tup h1 h2 =>
      cases ty
      obtain ⟨v, h3, h4⟩ := atI_rp h2 e
      exact .inr (.inl ⟨_, _, _, v, rfl, rfl, SqT.of (ex _ _ h1), h3, q v G H (Grow.refl ex) h4⟩)
  · split at e
    · rename_i x i c
      cases e1 : atI x.cps.toList i with
      | none => rw [e1] at e; cases e
      | some ch =>
        rw [e1] at e
        cases e
        cases tx
        cases ty
        exact .inr (.inr ⟨x, i, ch, rfl, rfl, lim_line c, e1, q _ G H (Grow.refl ex) (.str _)⟩)
    · cases e
  · cases e
theorem de_ix {K : PySem.W.Frag} (ha : DB X a ta ma) (hb : DB X b tb mb) (hs : PlainIx b := by exact fun _ _ => rfl) (hK : X.K = K := by rfl) : DE X (.Subscript a b pos) (tOp (rIx K) ta tb) (mOp dIx ma mb) := by
  subst hK
  exact ⟨pe_ix ix_seq ha.pe hb.pe hs, sim_op simO_ix ha.sim hb.sim⟩

/-! ### x[a:b] -/
def SimP (m : M (Option Int)) (t : TO) : Prop := ∀ ρ o ρ' σ G H (Q : Option Int → Hp → Prop), m ρ = some (o, ρ') → Rel ρ σ G H → (∀ G' H', Go ρ σ G H ρ' G' H' → Q o H') → t σ H Q
structure DP (X : Cx) (e : Option Expr) (t : TO) (m : M (Option Int)) : Prop where
  po : PO X e t
  sim : SimP m t
def mNoP : M (Option Int) := ret none
def mPart (m : M Dt) : M (Option Int) := bnd m fun d => match d with
  | .int i => ret (some i)
  | _ => lft none
theorem dp_none : DP X none tNoPart mNoP := ⟨po_none, fun ρ o ρ' σ G H Q e rl q => by
  obtain ⟨rfl, rfl⟩ := ret_some e
  exact q G H (Go.refl rl)⟩
theorem dp_some {m : M Dt} (h : DE X a ta m) : DP X (some a) (tPart ta) (mPart m) := ⟨po_some h.pe, fun ρ o ρ' σ G H Q e rl q => by
  obtain ⟨x, ρ1, h1, h2⟩ := bnd_some e
  split at h2
  · obtain ⟨rfl, rfl⟩ := ret_some h2
    refine h.sim ρ _ _ σ G H _ h1 rl fun v G1 H1 g1 r1 => ?_
    cases r1
    exact ⟨_, rfl, q G1 H1 g1⟩
  · cases h2⟩
def cutL {α : Type} (xs : List α) (lo hi : Option Int) : List α := (xs.drop (HT.sIx xs.length 0 lo)).take (HT.sIx xs.length xs.length hi - HT.sIx xs.length 0 lo)
theorem cutL_rp {G : Hp} {vs : List V} {ds : List Dt} (r : RpAll G vs ds) (lo hi : Option Int) : RpAll G (cutV vs lo hi) (cutL ds lo hi) := by
  unfold cutV cutL
  rw [r.length]
  exact (r.drop _).take _
/-- of a tuple or a text -/
def mSl (m : M BR) (l h : M (Option Int)) : M Dt := bnd m fun x => bnd l fun lo => bnd h fun hi => fun ρ => match brD ρ x with
  | some (.tuple ds) => some (.tuple (cutL ds lo hi), ρ)
  | some (.str s) => if s.length ≤ LIM then some (.str (cutS s lo hi), ρ) else none
  | _ => none
theorem cutL_whole {α : Type} (xs : List α) (lo hi : Option Int) (h : HT.sIx xs.length 0 lo = 0 ∧ HT.sIx xs.length xs.length hi = xs.length) : cutL xs lo hi = xs := by
  unfold cutL
  rw [h.1, h.2, List.drop_zero, Nat.sub_zero, List.take_length]
variable {lo hi : Option Expr} {tl th : TO} {ml mh : M (Option Int)}
theorem de_sl {K : PySem.W.Frag} (ha : DB X a ta ma) (hl : DP X lo tl ml) (hh : DP X hi th mh) (hK : X.K = K := by rfl) : DE X (.Subscript a (.Slice lo hi none p2) pos) (tSl (fun x l u H Q => rSlA K x l u H Q ∨ rSlS x l u H Q) ta tl th) (mSl ma ml mh) := by
  subst hK
  refine ⟨pe_slice (sl_tupA.or sl_str) ha.pe hl.po hh.po, fun ρ d ρ' σ G H Q e rl q => ?_⟩
  obtain ⟨x, ρ1, h1, h⟩ := bnd_some e
  obtain ⟨l, ρ2, h2, h⟩ := bnd_some h
  obtain ⟨u, ρ3, h3, h4⟩ := bnd_some h
  refine ha.sim ρ x ρ1 σ G H _ h1 rl fun v G1 H1 g1 b1 => hl.sim ρ1 l ρ2 σ G1 H1 _ h2 g1.rel fun G2 H2 g2 => hh.sim ρ2 u ρ3 σ G2 H2 _ h3 g2.rel fun G3 H3 g3 => ?_
  have b3 := b1.go (g2.trans g3)
  have g := (g1.trans g2).trans g3
  split at h4
  · rename_i ds hd
    cases h4
    have t : Rp G3 v (.tuple ds) := brTop g3.rel hd b3
    cases t with
    | tup k1 k2 =>
      refine .inl ⟨_, _, rfl, SqT.of (g3.ex _ _ k1), fun w => ?_, fun w p hp => ?_⟩
      · rw [k2.length] at w
        refine q _ G3 H3 g ?_
        rw [cutL_whole _ _ _ w]
        exact .tup k1 k2
      · exact q _ (upd G3 p _) _ (g.grow (Grow.known g3.ex hp)) (.tup upd_same (RpAll.ex (Ex.new (g3.ex.free hp)) _ (cutL_rp k2 l u)))
  · rename_i s hd
    split at h4
    · rename_i c
      cases h4
      have t : Rp G3 v (.str s) := brTop g3.rel hd b3
      cases t
      exact .inr ⟨s, rfl, lim_line c, q _ G3 H3 g (.str _)⟩
    · cases h4
  · cases h4
/-- of a list: a new one -/
def mSlL (m : M BR) (l h : M (Option Int)) : M SV := bnd m fun x => bnd l fun lo => bnd h fun hi => fun ρ => match brD ρ x with
  | some (.list ds) => some (.lst false (cutL ds lo hi), ρ)
  | _ => none
theorem dn_sl {K : PySem.W.Frag} (ha : DB X a ta ma) (hl : DP X lo tl ml) (hh : DP X hi th mh) (hK : X.K = K := by rfl) : DN X (.Subscript a (.Slice lo hi none p2) pos) (tSl (rSlL K) ta tl th) (mSlL ma ml mh) := by
  subst hK
  refine ⟨pe_slice sl_list ha.pe hl.po hh.po, fun ρ d ρ' σ G H Q e rl q => ?_⟩
  obtain ⟨x, ρ1, h1, h⟩ := bnd_some e
  obtain ⟨l, ρ2, h2, h⟩ := bnd_some h
  obtain ⟨u, ρ3, h3, h4⟩ := bnd_some h
  refine ha.sim ρ x ρ1 σ G H _ h1 rl fun v G1 H1 g1 b1 => hl.sim ρ1 l ρ2 σ G1 H1 _ h2 g1.rel fun G2 H2 g2 => hh.sim ρ2 u ρ3 σ G2 H2 _ h3 g2.rel fun G3 H3 g3 => ?_
  have b3 := b1.go (g2.trans g3)
  have g := (g1.trans g2).trans g3
  split at h4
  · rename_i ds hd
    cases h4
    obtain ⟨p, vs, rfl, k1, k2⟩ := brTop g3.rel hd b3
    exact ⟨p, vs, rfl, SqL.of k1, fun p' hp => q _ G3 _ (g.grow (Grow.unknown g3.ex hp)) (g.back hp) ⟨g3.ex.free hp, _, upd_same, cutL_rp k2 l u⟩⟩
  · cases h4

/-! ### lists: + and * -/
def mOpN (f : Dt → Dt → Option SV) (a b : M BR) : M SV := bnd a fun x => bnd b fun y => fun ρ => match brD ρ x, brD ρ y with
  | some p, some q => lft (f p q) ρ
  | _, _ => none
def SimON (f : Dt → Dt → Option SV) (r : R2) : Prop := ∀ x y z G H vx vy (Q : VK), f x y = some z → Top G H vx x → Top G H vy y → Ex G H → (∀ p G' H', Grow G H G' H' → H p = none → ObjR G' H' p z → Q (.ref p) H') → r vx vy H Q
theorem sim_opN {f : Dt → Dt → Option SV} {r : R2} (o : SimON f r) (sa : SimB ma ta) (sb : SimB mb tb) : SimN (mOpN f ma mb) (tOp r ta tb) := fun ρ d ρ' σ G H Q e rl q => by
  obtain ⟨x, ρ1, h1, h⟩ := bnd_some e
  obtain ⟨y, ρ2, h2, h3⟩ := bnd_some h
  split at h3
  · rename_i p p' e1 e2
    obtain ⟨h4, rfl⟩ := lft_some h3
    refine sa ρ x ρ1 σ G H _ h1 rl fun v1 G1 H1 g1 b1 => sb ρ1 y ρ' σ G1 H1 _ h2 g1.rel fun v2 G2 H2 g2 b2 => ?_
    exact o _ _ _ G2 H2 _ _ _ h4 (brTop g2.rel e1 (b1.go g2)) (brTop g2.rel e2 b2) g2.ex fun p G3 H3 g3 h0 r3 => q p G3 H3 ((g1.trans g2).grow g3) ((g1.trans g2).back h0) r3
  · cases h3
def catL : Dt → Dt → Option SV
  | .list x, .list y => if x.length + y.length ≤ LIM then some (.lst false (x ++ y)) else none
  | _, _ => none
theorem simON_cat : SimON catL rCat := fun x y z G H vx vy Q e tx ty ex q => by
  unfold catL at e
  split at e
  · split at e
    · rename_i c
      cases e
      obtain ⟨p, vs, rfl, h1, h2⟩ := tx
      obtain ⟨p', ws, rfl, h3, h4⟩ := ty
      exact ⟨p, p', vs, ws, rfl, rfl, h1, h3, by rw [h2.length, h4.length]; exact lim_line c, fun p2 hp => q p2 G _ (Grow.unknown ex hp) hp ⟨ex.free hp, _, upd_same, h2.append h4⟩⟩
    · cases e
  · cases e
theorem dn_cat (ha : DB X a ta ma) (hb : DB X b tb mb) : DN X (.BinOp a .Add b pos) (tOp rCat ta tb) (mOpN catL ma mb) := ⟨pe_op op_cat ha.pe hb.pe, sim_opN simON_cat ha.sim hb.sim⟩
def repL : Dt → Dt → Option SV
  | .list x, .int k => if k ≤ 1000000 ∧ x.length * k.toNat ≤ LIM ∧ -1000000 ≤ k then some (.lst false (List.replicate k.toNat x).flatten) else none
  | _, _ => none
theorem simON_rep : SimON repL rRep := fun x y z G H vx vy Q e tx ty ex q => by
  unfold repL at e
  split at e
  · split at e
    · rename_i c
      cases e
      obtain ⟨p, vs, rfl, h1, h2⟩ := tx
      cases ty
      refine ⟨p, _, vs, rfl, rfl, h1, by omega, by omega, by rw [h2.length]; exact lim_line c.2.1, fun p2 hp => q p2 G _ (Grow.unknown ex hp) hp ⟨ex.free hp, _, upd_same, h2.rep _⟩⟩
    · cases e
  · cases e
theorem dn_rep (ha : DB X a ta ma) (hb : DB X b tb mb) : DN X (.BinOp a .Mult b pos) (tOp rRep ta tb) (mOpN repL ma mb) := ⟨pe_op op_rep ha.pe hb.pe, sim_opN simON_rep ha.sim hb.sim⟩

/-! ### built-ins of one argument -/
def mC1 (f : Dt → Option Dt) (m : M BR) : M Dt := bnd m fun x => fun ρ => match brD ρ x with
  | some p => lft (f p) ρ
  | _ => none
def mC1N (f : Dt → Option SV) (m : M BR) : M SV := bnd m fun x => fun ρ => match brD ρ x with
  | some p => lft (f p) ρ
  | _ => none
abbrev RC := List V → Hp → VK → Prop
def SimC (f : Dt → Option Dt) (r : RC) : Prop := ∀ x z G H v (Q : VK), f x = some z → Top G H v x → Ex G H → (∀ v' G' H', Grow G H G' H' → Rp G' v' z → Q v' H') → r [v] H Q
def SimCN (f : Dt → Option SV) (r : RC) : Prop := ∀ x z G H v (Q : VK), f x = some z → Top G H v x → Ex G H → (∀ p G' H', Grow G H G' H' → H p = none → ObjR G' H' p z → Q (.ref p) H') → r [v] H Q
theorem sim_c1 {f : Dt → Option Dt} {r : RC} (o : SimC f r) (sa : SimB ma ta) : SimE (mC1 f ma) (tCB r (tCons ta tNil)) := fun ρ d ρ' σ G H Q e rl q => by
  obtain ⟨x, ρ1, h1, h⟩ := bnd_some e
  split at h
  · rename_i p e1
    obtain ⟨h4, rfl⟩ := lft_some h
    refine sa ρ x _ σ G H _ h1 rl fun v1 G1 H1 g1 b1 => ?_
    exact o _ _ G1 H1 _ _ h4 (brTop g1.rel e1 b1) g1.ex fun v G3 H3 g3 r3 => q v G3 H3 (g1.grow g3) r3
  · cases h
theorem sim_c1N {f : Dt → Option SV} {r : RC} (o : SimCN f r) (sa : SimB ma ta) : SimN (mC1N f ma) (tCB r (tCons ta tNil)) := fun ρ d ρ' σ G H Q e rl q => by
  obtain ⟨x, ρ1, h1, h⟩ := bnd_some e
  split at h
  · rename_i p e1
    obtain ⟨h4, rfl⟩ := lft_some h
    refine sa ρ x _ σ G H _ h1 rl fun v1 G1 H1 g1 b1 => ?_
    exact o _ _ G1 H1 _ _ h4 (brTop g1.rel e1 b1) g1.ex fun v G3 H3 g3 h0 r3 => q v G3 H3 (g1.grow g3) (g1.back h0) r3
  · cases h
variable {p : Pos}
/-- len -/
def dLen : Dt → Option Dt
  | .list ds => some (.int ds.length)
  | .tuple ds => some (.int ds.length)
  | .str x => if x.length ≤ LIM then some (.int x.length) else none
  | _ => none
def rLen (K : PySem.W.Frag) : RC := fun xs H Q => (∃ p ys, xs = [.ref p] ∧ (SqL K H p ys ∨ SqT K H p ys) ∧ Q (.int ys.length) H) ∨ (∃ z, xs = [.str z] ∧ z.length ≤ sizeLine ∧ Q (.int z.length) H)
theorem simC_len : SimC dLen (rLen K) := fun x z G H v Q e t ex q => by
  unfold dLen at e
  split at e
  · cases e
    obtain ⟨p, vs, rfl, h1, h2⟩ := t
    refine .inl ⟨p, vs, rfl, .inl (SqL.of h1), ?_⟩
    rw [h2.length]
    exact q _ G H (Grow.refl ex) (.int _)
  · rename_i ds
    cases e
    have t : Rp G v (.tuple ds) := t
    cases t with
    | tup h1 h2 =>
      refine .inl ⟨_, _, rfl, .inr (SqT.of (ex _ _ h1)), ?_⟩
      rw [h2.length]
      exact q _ G H (Grow.refl ex) (.int _)
  · split at e
    · rename_i c
      cases e
      cases t
      exact .inr ⟨_, rfl, lim_line c, q _ G H (Grow.refl ex) (.int _)⟩
    · cases e
  · cases e
theorem de_len {K : PySem.W.Frag} (hm : X.mg "len" = none) (ha : DB X a ta ma) (hg : Gl X "len" := by rfl) (hs : starEach (a :: []) X.env = (false, eval a X.env) :: starEach [] X.env := by rfl) (hK : X.K = K := by rfl) : DE X (.Call (.Name "len" p) [a] [] pos) (tCB (rLen K) (tCons ta tNil)) (mC1 dLen ma) := by
  subst hK
  exact ⟨pe_callB (call_len_seq.or call_len_str) hg hm PySem.boot_len (pa_cons ha.pe pa_nil hs) (he := hs), sim_c1 simC_len ha.sim⟩
/-- tuple -/
def dTuple : Dt → Option Dt
  | .list ds => some (.tuple ds)
  | .tuple ds => some (.tuple ds)
  | _ => none
def rTuple (K : PySem.W.Frag) : RC := fun xs H Q => ∃ p ys, xs = [.ref p] ∧ ((SqL K H p ys ∧ ∀ l, H l = none → Q (.ref l) (upd H l (.tup ys))) ∨ (SqT K H p ys ∧ Q (.ref p) H))
theorem simC_tuple : SimC dTuple (rTuple K) := fun x z G H v Q e t ex q => by
  unfold dTuple at e
  split at e
  · cases e
    obtain ⟨p, vs, rfl, h1, h2⟩ := t
    exact ⟨p, vs, rfl, .inl ⟨SqL.of h1, fun l hl => q _ (upd G l (.tup vs)) _ (Grow.known ex hl) (.tup upd_same (RpAll.ex (Ex.new (ex.free hl)) _ h2))⟩⟩
  · rename_i ds
    cases e
    have t : Rp G v (.tuple ds) := t
    cases t with
    | tup h1 h2 => exact ⟨_, _, rfl, .inr ⟨SqT.of (ex _ _ h1), q _ G H (Grow.refl ex) (.tup h1 h2)⟩⟩
  · cases e
theorem de_tuple {K : PySem.W.Frag} (hm : X.mg "tuple" = none) (ha : DB X a ta ma) (hg : Gl X "tuple" := by rfl) (hs : starEach (a :: []) X.env = (false, eval a X.env) :: starEach [] X.env := by rfl) (hK : X.K = K := by rfl) : DE X (.Call (.Name "tuple" p) [a] [] pos) (tCB (rTuple K) (tCons ta tNil)) (mC1 dTuple ma) := by
  subst hK
  exact ⟨pe_callTy call_tuple_of hg hm (by decide +kernel) (pa_cons ha.pe pa_nil hs) (he := hs), sim_c1 simC_tuple ha.sim⟩
/-- list -/
def dList : Dt → Option SV
  | .list ds => some (.lst false ds)
  | .tuple ds => some (.lst false ds)
  | _ => none
def rListC (K : PySem.W.Frag) : RC := fun xs H Q => ∃ p ys, xs = [.ref p] ∧ (SqL K H p ys ∨ SqT K H p ys) ∧ ∀ l, H l = none → Q (.ref l) (upd H l (.lst ys))
theorem simC_list : SimCN dList (rListC K) := fun x z G H v Q e t ex q => by
  unfold dList at e
  split at e
  · cases e
    obtain ⟨p, vs, rfl, h1, h2⟩ := t
    exact ⟨p, vs, rfl, .inl (SqL.of h1), fun l hl => q _ G _ (Grow.unknown ex hl) hl ⟨ex.free hl, _, upd_same, h2⟩⟩
  · rename_i ds
    cases e
    have t : Rp G v (.tuple ds) := t
    cases t with
    | tup h1 h2 => exact ⟨_, _, rfl, .inr (SqT.of (ex _ _ h1)), fun l hl => q _ G _ (Grow.unknown ex hl) hl ⟨ex.free hl, _, upd_same, h2⟩⟩
  · cases e
theorem dn_list {K : PySem.W.Frag} (hm : X.mg "list" = none) (ha : DB X a ta ma) (hg : Gl X "list" := by rfl) (hs : starEach (a :: []) X.env = (false, eval a X.env) :: starEach [] X.env := by rfl) (hK : X.K = K := by rfl) : DN X (.Call (.Name "list" p) [a] [] pos) (tCB (rListC K) (tCons ta tNil)) (mC1N dList ma) := by
  subst hK
  exact ⟨pe_callTy call_list_of hg hm (by decide +kernel) (pa_cons ha.pe pa_nil hs) (he := hs), sim_c1N simC_list ha.sim⟩
/-- int of an int, a bool -/
def dInt : Dt → Option Dt
  | .int i => some (.int i)
  | .bool k => some (.int (if k then 1 else 0))
  | _ => none
def rInt : RC := fun xs H Q => (∃ i, xs = [.int i] ∧ Q (.int i) H) ∨ ∃ k, xs = [.bl k] ∧ Q (.int (if k then 1 else 0)) H
theorem simC_int : SimC dInt rInt := fun x z G H v Q e t ex q => by
  unfold dInt at e
  split at e
  · cases e; cases t
    exact .inl ⟨_, rfl, q _ G H (Grow.refl ex) (.int _)⟩
  · cases e; cases t
    exact .inr ⟨_, rfl, q _ G H (Grow.refl ex) (.int _)⟩
  · cases e
theorem de_intC (hm : X.mg "int" = none) (ha : DB X a ta ma) (hg : Gl X "int" := by rfl) (hs : starEach (a :: []) X.env = (false, eval a X.env) :: starEach [] X.env := by rfl) : DE X (.Call (.Name "int" p) [a] [] pos) (tCB rInt (tCons ta tNil)) (mC1 dInt ma) :=
  ⟨pe_callTy call_int1 hg hm (by decide +kernel) (pa_cons ha.pe pa_nil hs) (he := hs), sim_c1 simC_int ha.sim⟩
/-- abs -/
def dAbs : Dt → Option Dt
  | .int i => some (.int (if i < 0 then -i else i))
  | _ => none
def rAbs : RC := fun xs H Q => ∃ i, xs = [.int i] ∧ Q (.int (if i < 0 then -i else i)) H
theorem simC_abs : SimC dAbs rAbs := fun x z G H v Q e t ex q => by
  unfold dAbs at e
  split at e
  · cases e; cases t
    exact ⟨_, rfl, q _ G H (Grow.refl ex) (.int _)⟩
  · cases e
theorem de_abs (hm : X.mg "abs" = none) (ha : DB X a ta ma) (hg : Gl X "abs" := by rfl) (hs : starEach (a :: []) X.env = (false, eval a X.env) :: starEach [] X.env := by rfl) : DE X (.Call (.Name "abs" p) [a] [] pos) (tCB rAbs (tCons ta tNil)) (mC1 dAbs ma) :=
  ⟨pe_callB call_abs hg hm (by decide +kernel) (pa_cons ha.pe pa_nil hs) (he := hs), sim_c1 simC_abs ha.sim⟩
/-- lists of ints, of bools -/
def intsD : List Dt → Option (List Int)
  | [] => some []
  | .int i :: r => (intsD r).map (i :: ·)
  | _ :: _ => none
def boolsD : List Dt → Option (List Bool)
  | [] => some []
  | .bool i :: r => (boolsD r).map (i :: ·)
  | _ :: _ => none
theorem intsD_rp {G : Hp} : ∀ {vs : List V} {ds : List Dt} {ns : List Int}, RpAll G vs ds → intsD ds = some ns → vs = ns.map V.int
  | _, _, _, .nil, h => by cases h; rfl
  | _, d :: ds, _, .cons h t, e => by
    cases d <;> try (cases e; done)
    rename_i i
    have e : (intsD ds).map (i :: ·) = some _ := e
    cases q : intsD ds with
    | none => rw [q] at e; cases e
    | some ns =>
      rw [q] at e
      cases e
      cases h
      rw [intsD_rp t q]
      rfl
theorem boolsD_rp {G : Hp} : ∀ {vs : List V} {ds : List Dt} {ns : List Bool}, RpAll G vs ds → boolsD ds = some ns → vs = ns.map V.bl
  | _, _, _, .nil, h => by cases h; rfl
  | _, d :: ds, _, .cons h t, e => by
    cases d <;> try (cases e; done)
    rename_i i
    have e : (boolsD ds).map (i :: ·) = some _ := e
    cases q : boolsD ds with
    | none => rw [q] at e; cases e
    | some ns =>
      rw [q] at e
      cases e
      cases h
      rw [boolsD_rp t q]
      rfl
def dSum : Dt → Option Dt
  | .list ds => (intsD ds).map fun ns => .int ns.sum
  | _ => none
theorem simC_sum : SimC dSum (rSum K) := fun x z G H v Q e t ex q => by
  unfold dSum at e
  split at e
  · rename_i ds
    cases e1 : intsD ds with
    | none => rw [e1] at e; cases e
    | some ns =>
      rw [e1] at e
      cases e
      obtain ⟨p, vs, rfl, h1, h2⟩ := t
      rw [intsD_rp h2 e1] at h1
      exact ⟨p, ns, rfl, SqL.of h1, q _ G H (Grow.refl ex) (.int _)⟩
  · cases e
theorem de_sum {K : PySem.W.Frag} (hm : X.mg "sum" = none) (ha : DB X a ta ma) (hc : X.calm = true := by rfl) (hg : Gl X "sum" := by rfl) (hs : starEach (a :: []) X.env = (false, eval a X.env) :: starEach [] X.env := by rfl) (hK : X.K = K := by rfl) : DE X (.Call (.Name "sum" p) [a] [] pos) (tCB (rSum K) (tCons ta tNil)) (mC1 dSum ma) := by
  subst hK
  exact ⟨pe_callB (cr_sum hc) hg hm (by decide +kernel) (pa_cons ha.pe pa_nil hs) (he := hs), sim_c1 simC_sum ha.sim⟩
def dAll : Dt → Option Dt
  | .list ds => (boolsD ds).map fun ns => .bool (ns.all id)
  | _ => none
def dAny : Dt → Option Dt
  | .list ds => (boolsD ds).map fun ns => .bool (ns.any id)
  | _ => none
theorem simC_all : SimC dAll (rAll K) := fun x z G H v Q e t ex q => by
  unfold dAll at e
  split at e
  · rename_i ds
    cases e1 : boolsD ds with
    | none => rw [e1] at e; cases e
    | some ns =>
      rw [e1] at e
      cases e
      obtain ⟨p, vs, rfl, h1, h2⟩ := t
      rw [boolsD_rp h2 e1] at h1
      exact ⟨p, ns, rfl, SqL.of h1, q _ G H (Grow.refl ex) (.bl _)⟩
  · cases e
theorem simC_any : SimC dAny (rAny K) := fun x z G H v Q e t ex q => by
  unfold dAny at e
  split at e
  · rename_i ds
    cases e1 : boolsD ds with
    | none => rw [e1] at e; cases e
    | some ns =>
      rw [e1] at e
      cases e
      obtain ⟨p, vs, rfl, h1, h2⟩ := t
      rw [boolsD_rp h2 e1] at h1
      exact ⟨p, ns, rfl, SqL.of h1, q _ G H (Grow.refl ex) (.bl _)⟩
  · cases e
theorem de_all {K : PySem.W.Frag} (hm : X.mg "all" = none) (ha : DB X a ta ma) (hc : X.calm = true := by rfl) (hg : Gl X "all" := by rfl) (hs : starEach (a :: []) X.env = (false, eval a X.env) :: starEach [] X.env := by rfl) (hK : X.K = K := by rfl) : DE X (.Call (.Name "all" p) [a] [] pos) (tCB (rAll K) (tCons ta tNil)) (mC1 dAll ma) := by
  subst hK
  exact ⟨pe_callB (cr_all hc) hg hm (by decide +kernel) (pa_cons ha.pe pa_nil hs) (he := hs), sim_c1 simC_all ha.sim⟩
theorem de_any {K : PySem.W.Frag} (hm : X.mg "any" = none) (ha : DB X a ta ma) (hc : X.calm = true := by rfl) (hg : Gl X "any" := by rfl) (hs : starEach (a :: []) X.env = (false, eval a X.env) :: starEach [] X.env := by rfl) (hK : X.K = K := by rfl) : DE X (.Call (.Name "any" p) [a] [] pos) (tCB (rAny K) (tCons ta tNil)) (mC1 dAny ma) := by
  subst hK
  exact ⟨pe_callB (cr_any hc) hg hm (by decide +kernel) (pa_cons ha.pe pa_nil hs) (he := hs), sim_c1 simC_any ha.sim⟩
/-- max, min of a list of ints -/
def dMax : Dt → Option Dt
  | .list ds => (intsD ds).bind fun ns => ns.max?.map fun m => .int m
  | _ => none
def dMin : Dt → Option Dt
  | .list ds => (intsD ds).bind fun ns => ns.min?.map fun m => .int m
  | _ => none
theorem simC_max : SimC dMax (rMax K) := fun x z G H v Q e t ex q => by
  unfold dMax at e
  split at e
  · rename_i ds
    cases e1 : intsD ds with
    | none => rw [e1] at e; cases e
    | some ns =>
      rw [e1] at e
      have e : ns.max?.map (fun m => PyData.int m) = some z := e
      cases e2 : ns.max? with
      | none => rw [e2] at e; cases e
      | some m =>
        rw [e2] at e
        cases e
        obtain ⟨p, vs, rfl, h1, h2⟩ := t
        rw [intsD_rp h2 e1] at h1
        have hm := (List.max?_eq_some_iff (a := m) (xs := ns)).mp e2
        refine ⟨p, ns, rfl, SqL.of h1, List.length_pos_of_mem hm.1, fun m' h3 h4 => ?_⟩
        have : m' = m := Int.le_antisymm (hm.2 m' h3) (h4 m hm.1)
        subst this
        exact q _ G H (Grow.refl ex) (.int _)
  · cases e
theorem simC_min : SimC dMin (rMin K) := fun x z G H v Q e t ex q => by
  unfold dMin at e
  split at e
  · rename_i ds
    cases e1 : intsD ds with
    | none => rw [e1] at e; cases e
    | some ns =>
      rw [e1] at e
      have e : ns.min?.map (fun m => PyData.int m) = some z := e
      cases e2 : ns.min? with
      | none => rw [e2] at e; cases e
      | some m =>
        rw [e2] at e
        cases e
        obtain ⟨p, vs, rfl, h1, h2⟩ := t
        rw [intsD_rp h2 e1] at h1
        have hm := (List.min?_eq_some_iff (a := m) (xs := ns)).mp e2
        refine ⟨p, ns, rfl, SqL.of h1, List.length_pos_of_mem hm.1, fun m' h3 h4 => ?_⟩
        have : m' = m := Int.le_antisymm (h4 m hm.1) (hm.2 m' h3)
        subst this
        exact q _ G H (Grow.refl ex) (.int _)
  · cases e
theorem de_max1 {K : PySem.W.Frag} (hm : X.mg "max" = none) (ha : DB X a ta ma) (hc : X.calm = true := by rfl) (hg : Gl X "max" := by rfl) (hs : starEach (a :: []) X.env = (false, eval a X.env) :: starEach [] X.env := by rfl) (hK : X.K = K := by rfl) : DE X (.Call (.Name "max" p) [a] [] pos) (tCB (rMax K) (tCons ta tNil)) (mC1 dMax ma) := by
  subst hK
  exact ⟨pe_callB (cr_max hc) hg hm (by decide +kernel) (pa_cons ha.pe pa_nil hs) (he := hs), sim_c1 simC_max ha.sim⟩
theorem de_min1 {K : PySem.W.Frag} (hm : X.mg "min" = none) (ha : DB X a ta ma) (hc : X.calm = true := by rfl) (hg : Gl X "min" := by rfl) (hs : starEach (a :: []) X.env = (false, eval a X.env) :: starEach [] X.env := by rfl) (hK : X.K = K := by rfl) : DE X (.Call (.Name "min" p) [a] [] pos) (tCB (rMin K) (tCons ta tNil)) (mC1 dMin ma) := by
  subst hK
  exact ⟨pe_callB (cr_min hc) hg hm (by decide +kernel) (pa_cons ha.pe pa_nil hs) (he := hs), sim_c1 simC_min ha.sim⟩
/-- max(m, n), min(m, n) -/
def mC2 (f : Dt → Dt → Option Dt) (a b : M BR) : M Dt := mOp f a b
def dMax2 : Dt → Dt → Option Dt
  | .int i, .int j => some (.int (if j > i then j else i))
  | _, _ => none
def dMin2 : Dt → Dt → Option Dt
  | .int i, .int j => some (.int (if j < i then j else i))
  | _, _ => none
def rMx2 : RC := fun xs H Q => ∃ i j, xs = [.int i, .int j] ∧ Q (.int (if j > i then j else i)) H
def rMn2 : RC := fun xs H Q => ∃ i j, xs = [.int i, .int j] ∧ Q (.int (if j < i then j else i)) H
theorem sim_c2 {f : Dt → Dt → Option Dt} {r : RC} (o : SimO f fun x y H Q => r [x, y] H Q) (sa : SimB ma ta) (sb : SimB mb tb) : SimE (mOp f ma mb) (tCB r (tCons ta (tCons tb tNil))) := fun ρ d ρ' σ G H Q e rl q => sim_op o sa sb ρ d ρ' σ G H Q e rl q
theorem de_max2 (hm : X.mg "max" = none) (ha : DB X a ta ma) (hb : DB X b tb mb) (hc : X.calm = true := by rfl) (hg : Gl X "max" := by rfl) (hs : starEach (a :: [b]) X.env = (false, eval a X.env) :: starEach [b] X.env := by rfl) (hs2 : starEach (b :: []) X.env = (false, eval b X.env) :: starEach [] X.env := by rfl) :
    DE X (.Call (.Name "max" p) [a, b] [] pos) (tCB rMx2 (tCons ta (tCons tb tNil))) (mOp dMax2 ma mb) :=
  ⟨pe_callB (call_max2 hc) hg hm (by decide +kernel) (pa_cons ha.pe (pa_cons hb.pe pa_nil hs2) hs) (he := hs) (hpl := by rw [hs2]; rfl), sim_c2 (fun x y z G H vx vy Q e tx ty ex q => by
    unfold dMax2 at e
    split at e
    · cases e; cases tx; cases ty
      exact ⟨_, _, rfl, q _ G H (Grow.refl ex) (.int _)⟩
    · cases e) ha.sim hb.sim⟩
theorem de_min2 (hm : X.mg "min" = none) (ha : DB X a ta ma) (hb : DB X b tb mb) (hc : X.calm = true := by rfl) (hg : Gl X "min" := by rfl) (hs : starEach (a :: [b]) X.env = (false, eval a X.env) :: starEach [b] X.env := by rfl) (hs2 : starEach (b :: []) X.env = (false, eval b X.env) :: starEach [] X.env := by rfl) :
    DE X (.Call (.Name "min" p) [a, b] [] pos) (tCB rMn2 (tCons ta (tCons tb tNil))) (mOp dMin2 ma mb) :=
  ⟨pe_callB (call_min2 hc) hg hm (by decide +kernel) (pa_cons ha.pe (pa_cons hb.pe pa_nil hs2) hs) (he := hs) (hpl := by rw [hs2]; rfl), sim_c2 (fun x y z G H vx vy Q e tx ty ex q => by
    unfold dMin2 at e
    split at e
    · cases e; cases tx; cases ty
      exact ⟨_, _, rfl, q _ G H (Grow.refl ex) (.int _)⟩
    · cases e) ha.sim hb.sim⟩
/-- str of an int -/
def dStr : Dt → Option Dt
  | .int i => if i.natAbs.log2 < 1920 then some (.str (toString i)) else none
  | _ => none
def rStrI : RC := fun xs H Q => ∃ i, xs = [.int i] ∧ i.natAbs.log2 < 1920 ∧ Q (.str (toString i)) H
theorem simC_str : SimC dStr rStrI := fun x z G H v Q e t ex q => by
  unfold dStr at e
  split at e
  · split at e
    · rename_i c
      cases e; cases t
      exact ⟨_, rfl, c, q _ G H (Grow.refl ex) (.str _)⟩
    · cases e
  · cases e
theorem de_strC (hm : X.mg "str" = none) (ha : DB X a ta ma) (hg : Gl X "str" := by rfl) (hs : starEach (a :: []) X.env = (false, eval a X.env) :: starEach [] X.env := by rfl) : DE X (.Call (.Name "str" p) [a] [] pos) (tCB rStrI (tCons ta tNil)) (mC1 dStr ma) :=
  ⟨pe_callTy call_str_int hg hm (by decide +kernel) (pa_cons ha.pe pa_nil hs) (he := hs), sim_c1 simC_str ha.sim⟩
end
end DL
end
section
set_option maxRecDepth 100000
set_option maxHeartbeats 4000000
/-! DL5: enumerate of a list or a tuple, zip of any two of them, as things that are walked. -/
namespace DL
open PySem L2
open AutoSeq1 (wpAny_loadPart')
/-! ### a list or a tuple -/
def IsSeq (t : Bool) (h : Heap) (l : Addr) (items : Array Value) : Prop := match t with
  | true => h.IsTuple l items
  | false => h.IsList l items
def IsSeqIt (t : Bool) (h : Heap) (it l : Addr) (i : Nat) : Prop := match t with
  | true => h.IsTupleIter it l i
  | false => h.IsListIter it l i
def SqX (K : PySem.W.Frag) (H : Hp) (a : Addr) (xs : List V) (t : Bool) : Prop := match t with
  | true => SqT K H a xs
  | false => SqL K H a xs
theorem IsSeqIt.at {t : Bool} {h h' : Heap} {it l : Addr} {i : Nat} (x : IsSeqIt t h it l i) (k : ∀ o, h.get? it = some o → h'.get? it = some o) : IsSeqIt t h' it l i := by
  cases t with
  | true => exact Heap.IsTupleIter.at x k
  | false => exact Heap.IsListIter.at x k
theorem IsSeqIt.obj {t : Bool} {h : Heap} {it l : Addr} {i : Nat} (x : IsSeqIt t h it l i) : ∃ o, h.get? it = some o ∧ ∀ v, o.data ≠ .cell v := by
  cases t with
  | true => obtain ⟨o, ho, hc, hd⟩ := x; exact ⟨o, ho, fun v q => by rw [hd] at q; cases q⟩
  | false => obtain ⟨o, ho, hc, hd⟩ := x; exact ⟨o, ho, fun v q => by rw [hd] at q; cases q⟩
theorem Draws.seq {prog : Program} {w : World} {A : Around} (hh : A.handled = none) (t : Bool) (it l : Addr) (hne : l ≠ it) (items : Array Value) :
    Draws prog w A it [it, l] items.size (fun i v => items[i]? = some v) (fun i h => IsSeqIt t h it l i ∧ IsSeq t h l items) := by
  cases t with
  | true => exact Draws.tuple hh it l hne items
  | false => exact Draws.list hh it l hne items
section
variable {X : Cx} {pins : List (Addr × Obj)} {σ : L2.St} {H : Hp} {s : Shared} {a : Addr} {xs ys : List V} {t : Bool}
theorem inv_seq (I : Inv X pins σ H s) (h : SqX X.K H a xs t) : ∃ its : List Value, Vals xs its ∧ IsSeq t s.heap a its.toArray ∧ xs.length ≤ sizeLine := by
  cases t with
  | true =>
    obtain ⟨its, r, p, z⟩ := I.tuple h
    exact ⟨its, r, p, z⟩
  | false =>
    obtain ⟨its, r, p, z⟩ := I.list h
    exact ⟨its, r, p.isList, z⟩
theorem inv_seq_inj (I : Inv X pins σ H s) (h : SqX X.K H a xs t) (h' : SqX X.K H a ys t) : xs = ys := by
  cases t with
  | true => exact I.tuple_inj h h'
  | false => exact I.list_inj h h'
theorem IsSeq.lt {t : Bool} {h : Heap} {a : Addr} {items : Array Value} (x : IsSeq t h a items) : a < h.objs.size := by
  cases t with
  | true => obtain ⟨o, ho, _⟩ := x; exact Heap.lt_size ho
  | false => obtain ⟨o, ho, _⟩ := x; exact Heap.lt_size ho
end
def seqO (t : Bool) (l : Addr) : Obj := match t with
  | true => { cls := .type "tuple_iterator", data := .fields #[.ref l, .int 0 0] }
  | false => { cls := .type "list_iterator", data := .fields #[.ref l, .int 0 0] }
theorem begins_seq (t : Bool) (l : Addr) (items : Array Value) : Begins (.ref l) (seqO t l) fun h => IsSeq t h l items := by
  cases t with
  | true => exact begins_tuple l items
  | false => exact begins_list l items
theorem seqIt_of {t : Bool} {h : Heap} {it l : Addr} (e : h.get? it = some (seqO t l)) : IsSeqIt t h it l 0 := by
  cases t with
  | true => exact ⟨_, e, rfl, rfl⟩
  | false => exact ⟨_, e, rfl, rfl⟩

/-! ### enumerate(v) -/
theorem meets_enumerate_new1 {v : Value} {o : Obj} {H : Heap → Prop} (B : Begins v o H) :
    Meets (Builtin.«enumerate.__new__» ⟨[.type "enumerate", v], []⟩) (fun _ R s => H s.heap ∧
      R (.ok (.ret (.ref (s.heap.push o).objs.size))) { s with heap := (s.heap.push o).push { cls := .type "enumerate", data := .fields #[.none, .bool false, .ref s.heap.objs.size, rawInt 0, .none, .none] } }) :=
  .of_wp fun prog w A R s h => by
    obtain ⟨hp, g, d, tk, os⟩ := s; obtain ⟨h1, h⟩ := h
    have hsub := sub_enumerate
    have q1 : ∀ {A' : Around} {E : Value → Shared → Prop} {Q : Value → Shared → Prop}, Q (.ref hp.objs.size) ⟨hp.push o, g, d, tk, os⟩ → wpAny (model prog w) A' (pyIter v) Q E ⟨hp, g, d, tk, os⟩ :=
      fun q => B.iter prog w _ _ ⟨hp, g, d, tk, os⟩ _ h1 q
    wp_walk using q1
    refine wpAny_stack_any fun st => wpAny_pure ?_
    split
    · rename_i c _ _ _ _ _
      cases (c == Value.type "enumerate")
      · wp_walk using q1
        exact ⟨_, rfl, h⟩
      · wp_walk using q1
        exact ⟨_, rfl, h⟩
    · wp_walk using q1
      exact ⟨_, rfl, h⟩
section
variable {prog : Program} {w : World} {A : Around} {E : Value → Shared → Prop} {s : Shared}
theorem enum_begins1 {v : Value} {o : Obj} {H : Heap → Prop} {Q : Value → Shared → Prop} (B : Begins v o H) (h1 : H s.heap)
    (h : ∀ h', IsEnum h' (s.heap.objs.size + 1) s.heap.objs.size 0 .none → h'.get? s.heap.objs.size = some o → h'.objs.size = s.heap.objs.size + 2 →
      (∀ b o, s.heap.get? b = some o → h'.get? b = some o) → Q (.ref (s.heap.objs.size + 1)) { s with heap := h' }) :
    wpAny (model prog w) A (call (.type "enumerate") [v]) Q E s := by
  refine callType_new F.called_enumerate (by decide) (F.typeCall_enumerate_1 _) (F.newCall_enumerate_1 _) (fun obj => F.args_object_init_2 obj _) F.entry_enumerate_new
    (meets_enumerate_new1 B) ⟨h1, ?_⟩
  have hz : (s.heap.push o).objs.size = s.heap.objs.size + 1 := Heap.size_push ..
  show _ ∧ _
  rw [hz]
  have he : IsEnum ((s.heap.push o).push { cls := .type "enumerate", data := .fields #[.none, .bool false, .ref s.heap.objs.size, rawInt 0, .none, .none] }) (s.heap.objs.size + 1) s.heap.objs.size 0 .none := by
    have := Heap.get?_push_size (s.heap.push o) (o := { cls := .type "enumerate", data := .fields #[.none, .bool false, .ref s.heap.objs.size, rawInt 0, .none, .none] }) rfl
    rw [hz] at this; exact this
  refine ⟨⟨_, he, rfl⟩, h _ he (Heap.get?_push_of_some _ (Heap.get?_push_size _ B.free)) (by rw [Heap.size_push, hz]) fun b o x => Heap.get?_push_of_some _ (Heap.get?_push_of_some _ x)⟩
end
theorem cls_ne {o : Obj} {a b : String} (h : o.cls = .type a) (h' : o.cls = .type b) (ne : a ≠ b) : False := by
  rw [h] at h'
  injection h' with e
  exact ne e
theorem seq_it_ne {t t' : Bool} {h : Heap} {a it l : Addr} {items : Array Value} {i : Nat} (p : IsSeq t h a items) (q : IsSeqIt t' h it l i) : a ≠ it := by
  intro z
  subst z
  cases t <;> cases t' <;>
  · obtain ⟨o1, k1, k2, _⟩ := p
    obtain ⟨o2, k3, k4, _⟩ := q
    rw [k1] at k3; cases k3
    exact cls_ne k2 k4 (by decide)
theorem enum_seq_ne {t : Bool} {h : Heap} {a e it : Addr} {items : Array Value} {i : Int} {old : Value} (he : IsEnum h e it i old) (p : IsSeq t h a items) : e ≠ a := by
  intro z
  subst z
  cases t <;>
  · obtain ⟨o1, k1, k2, _⟩ := p
    rw [he] at k1; cases k1
    exact cls_ne (o := { cls := .type "enumerate", dict := none, data := .fields #[.none, .bool false, .ref it, rawInt i, .none, old], slots := #[] }) rfl k2 (by decide)
theorem zip_seq_ne {t : Bool} {h : Heap} {a z TI TO : Addr} {items : Array Value} {old : Value} (he : IsZip h z TI TO old) (p : IsSeq t h a items) : z ≠ a := by
  intro q
  subst q
  cases t <;>
  · obtain ⟨o1, k1, k2, _⟩ := p
    rw [he] at k1; cases k1
    exact absurd k2 (by intro w; injection w with w; revert w; decide)
/-- what an enumerate walks -/
def IteX (K : PySem.W.Frag) (a : Addr) (t : Bool) : It :=
  ⟨fun i H => ∃ xs x, SqX K H a xs t ∧ xs[i]? = some x, fun i H v H' => ∃ T x, v = .ref T ∧ H T = none ∧ H' = upd H T (.tup [.int (i : Nat), x]) ∧ ∀ xs, SqX K H a xs t → xs[i]? = some x, fun i H => ∃ xs, SqX K H a xs t ∧ xs.length = i⟩
theorem turn_enumX {P : Program} {w : World} {K : PySem.W.Frag} {elts : List Expr} {kk : Nat} {tpos : Pos} (a e it : Addr) (t : Bool) :
    Turn P w K (.Tuple elts kk tpos) (IteX K a t) [e, it] e (fun i h => (∃ old, IsEnum h e it ((i : Nat) : Int) old) ∧ IsSeqIt t h it a i ∧ e ≠ it) where
  mem := by simp
  obj := fun i h st b hb => by
    obtain ⟨⟨old, he⟩, hi, _⟩ := st
    have e' : b = e ∨ b = it := by simpa using hb
    rcases e' with z | z
    · rw [z]; exact ⟨_, he, fun v q => nomatch q⟩
    · rw [z]; exact hi.obj
  keep := fun i h h' st k => let ⟨⟨old, he⟩, hi, hne⟩ := st; ⟨⟨old, k e (by simp) _ he⟩, hi.at fun o q => k it (by simp) o q, hne⟩
  item := by
    intro X hP hw hK hc i pins s σ H E I hf st hg
    subst hP hw hK
    obtain ⟨⟨old, he⟩, hit, hne⟩ := st
    obtain ⟨xs, x, hq, hx⟩ := hg
    obtain ⟨its, rv, p, hz⟩ := inv_seq I hq
    obtain ⟨u, hu, ru⟩ := rv.get hx
    have hel : e < s.heap.objs.size := Heap.lt_size he
    have hil : it < s.heap.objs.size := by obtain ⟨_, q, _⟩ := hit.obj; exact Heap.lt_size q
    have nit : H it = none := (hf it (by simp)).1
    have ne1 : a ≠ it := seq_it_ne p hit
    have ne2 : e ∉ [it, a] := by
      intro z
      have z : e = it ∨ e = a := by simpa using z
      rcases z with z | z
      · exact hne z
      · exact enum_seq_ne he p z
    refine wpAny_pyNext_enum_itemC (Draws.seq (A := X.A.in1) (show X.A.in1.handled = none from I.ok.hd hc) t it a ne1 its.toArray) he ⟨hit, p⟩ (by
      have := (List.getElem?_eq_some_iff.mp hx).1
      have l := rv.length
      simp; omega) hne ne2 fun x' h' tk hx' ho hit' hT hsz hk => ?_
    have ex : x' = u := by
      have : its.toArray[i]? = some x' := hx'
      rw [List.getElem?_toArray, hu] at this
      exact (Option.some.inj this).symm
    subst ex
    refine ⟨_, rfl, wpAny_letOwnedTupleGo_enum (s := { s with heap := h', toks := tk + 1 }) ho fun h'' he' sb => ?_⟩
    have hT2 : h''.get? s.heap.objs.size = some { cls := .type "tuple", data := .seq #[.int i tk, x'] } := (sb.2 _ (Nat.ne_of_gt hel)).trans hT
    have new : ObjOk X.prog X.w (upd H s.heap.objs.size (.tup [.int (i : Nat), x])) h'' s.heap.objs.size (.tup [.int (i : Nat), x]) :=
      ⟨by show 2 ≤ sizeLine; decide, [.int i tk, x'], .cons ⟨_, rfl⟩ (.cons ru .nil), ⟨_, hT2, rfl, _, rfl⟩⟩
    have I1 : Inv X pins σ (upd H s.heap.objs.size (.tup [.int (i : Nat), x])) { s with heap := h'', toks := tk + 1 } :=
      I.turnedNew (ch := [e, it]) (fun b ob hb q => (sb.2 b (fun z => hb (by simp [z]))).trans (hk b ob (fun z => hb (by simp [z])) (fun z => hb (by simp [z])) q)) hf (Nat.le_refl _) new
    refine ⟨.ref s.heap.objs.size, _, I1, rfl, ⟨_, x, rfl, I.hok.fresh (Nat.le_refl _), rfl, fun ys hy => by rw [inv_seq_inj I hy hq]; exact hx⟩, ⟨⟨x', ?_⟩, hit'.1.at fun o q => (sb.2 it (Ne.symm hne)).trans q, hne⟩, fun b hb => ?_⟩
    · have e1 : ((i + 1 : Nat) : Int) = (i : Int) + 1 := by omega
      rw [e1]; exact he'
    · have hb' : b < s.heap.objs.size := by
        have e' : b = e ∨ b = it := by simpa using hb
        rcases e' with z | z
        · rw [z]; exact hel
        · rw [z]; exact hil
      rw [upd_ne (Nat.ne_of_lt hb')]
      exact (hf b hb).1
  done := by
    intro X hP hw hK hc i pins s σ H E I hf st hg
    subst hP hw hK
    obtain ⟨⟨old, he⟩, hit, hne⟩ := st
    obtain ⟨xs, hq, hx⟩ := hg
    obtain ⟨its, rv, p, hz⟩ := inv_seq I hq
    obtain ⟨f0, f1, f2, f3, f4, f5⟩ := hf it (by simp)
    have hl := rv.length
    have ne1 : a ≠ it := seq_it_ne p hit
    have en : its.toArray.size = i := by simp; omega
    exact wpAny_pyNext_enum_endD (Draws.seq (A := X.A.in1) (show X.A.in1.handled = none from I.ok.hd hc) t it a ne1 its.toArray) he (by rw [en]; exact ⟨hit, p⟩) fun h' eb => ⟨rfl, I.turned (t' := s.toks) (fun b o hb q => eb b o hb q) f0 f1 f3 f4 f5⟩
  self := fun A i s Q E st h => let ⟨⟨_, he⟩, _⟩ := st; wpAny_pyIter_enum he h
def iEnumX (K : PySem.W.Frag) (ta : TA) : TI := fun σ H R => ta σ H fun vs H1 => ∃ a xs t, vs = [.ref a] ∧ SqX K H1 a xs t ∧ R (IteX K a t) H1
theorem pi_enumX {X : Cx} {e : Expr} {ta : TA} {p pos tpos : Pos} {elts : List Expr} {kk : Nat} (hg : Gl X "enumerate") (hm : X.mg "enumerate" = none) (ha : PA X [e] ta) (hs : starEach [e] X.env = [(false, eval e X.env)] := by rfl) :
    PI X (.Tuple elts kk tpos) (.Call (.Name "enumerate" p) [e] [] pos) (iEnumX X.K ta) := by
  refine ⟨fun pins s σ H R I h => ?_⟩
  refine PyProof.Rows.Call_ (ld_blt I hg hm PyProof.Rows.boot_enumerate (PyProof.Rows.callWith_type1 (thn (ha.run pos pins s σ H _ I h) fun us s1 ⟨vs, H1, I1, r1, q1⟩ => ?_) hs rfl))
  obtain ⟨a, xs, t, ex, hq, q⟩ := q1
  subst ex
  cases r1 with
  | cons r rr =>
    cases rr
    cases r
    obtain ⟨its, rv, p', hz⟩ := inv_seq I1 hq
    refine enum_begins1 (begins_seq t a its.toArray) p' fun h' he hit hsz hk => wpAny_pyIter_enum he ?_
    have I2 : Inv X pins σ H1 { s1 with heap := h' } := I1.kept (t' := s1.toks) hk
    refine ⟨s1.heap.objs.size + 1, [s1.heap.objs.size + 1, s1.heap.objs.size], _, _, H1, rfl, I2, turn_enumX a (s1.heap.objs.size + 1) s1.heap.objs.size t, ⟨⟨.none, he⟩, seqIt_of hit, Nat.succ_ne_self _⟩, fun b hb => ?_, q⟩
    have e' : b = s1.heap.objs.size + 1 ∨ b = s1.heap.objs.size := by simpa using hb
    have hle : s1.heap.objs.size ≤ b := by
      rcases e' with z | z
      · rw [z]; exact Nat.le_add_right _ _
      · rw [z]; exact Nat.le_refl _
    exact I1.fpOk hle (I1.hok.fresh hle)

/-! ### zip(v, u) -/
theorem zip_sepX {a b z TI TO i1 i2 : Addr} (D : ZipApart z TI TO i1 i2 a b) : ZipSep2 z TI TO i1 i2 [i1, a] [i2, b] where
  TIz := D.TIz
  TOz := D.TOz
  TITO := D.TITO
  TIi1 := D.TIi1
  mem1 := by simp
  zf1 := by simp; exact ⟨fun q => D.i1z q.symm, fun q => D.l1z q.symm⟩
  Tf1 := by simp; exact ⟨D.TOi1, fun q => D.l1TO q.symm⟩
  TIi2 := D.TIi2
  mem2 := by simp
  zf2 := by simp; exact ⟨fun q => D.i2z q.symm, fun q => D.l2z q.symm⟩
  Tf2 := by simp; exact ⟨D.TOi2, fun q => D.l2TO q.symm⟩
  sep1_2 := by simp; exact ⟨D.i12, fun q => D.l2i1 q.symm⟩
  sep2_1 := by simp; exact ⟨fun q => D.i12 q.symm, fun q => D.l1i2 q.symm⟩
def ItzX (K : PySem.W.Frag) (a b : Addr) (t u : Bool) : It :=
  ⟨fun i H => ∃ (xs ys : List V) (x y : V), SqX K H a xs t ∧ SqX K H b ys u ∧ xs[i]? = some x ∧ ys[i]? = some y,
    fun i H v H' => ∃ T x y, v = .ref T ∧ H T = none ∧ H' = upd H T (.tup [x, y]) ∧ (∀ xs, SqX K H a xs t → xs[i]? = some x) ∧ ∀ ys, SqX K H b ys u → ys[i]? = some y,
    fun i H => ∃ xs ys : List V, SqX K H a xs t ∧ SqX K H b ys u ∧ i ≤ xs.length ∧ i ≤ ys.length ∧ (xs.length = i ∨ ys.length = i)⟩
theorem turn_zipX {P : Program} {w : World} {K : PySem.W.Frag} {elts : List Expr} {kk : Nat} {tpos : Pos} {a b z TI TO i1 i2 : Addr} {t u : Bool} (D : ZipApart z TI TO i1 i2 a b) :
    Turn P w K (.Tuple elts kk tpos) (ItzX K a b t u) [z, TI, TO, i1, i2] z (fun i h => IsZip h z TI TO .none ∧ IsPair h TI (.ref i1) (.ref i2) ∧ (∃ x y, IsPair h TO x y) ∧ IsSeqIt t h i1 a i ∧ IsSeqIt u h i2 b i) where
  mem := by simp
  obj := fun i h st c hc => by
    obtain ⟨hz, hTI, ⟨x, y, hTO⟩, h1, h2⟩ := st
    have e' : c = z ∨ c = TI ∨ c = TO ∨ c = i1 ∨ c = i2 := by simpa using hc
    rcases e' with q | q | q | q | q
    · rw [q]; exact ⟨_, hz, fun v q => nomatch q⟩
    · rw [q]; exact ⟨_, hTI, fun v q => nomatch q⟩
    · rw [q]; exact ⟨_, hTO, fun v q => nomatch q⟩
    · rw [q]; exact h1.obj
    · rw [q]; exact h2.obj
  keep := fun i h h' st k => by
    obtain ⟨hz, hTI, ⟨x, y, hTO⟩, h1, h2⟩ := st
    exact ⟨k z (by simp) _ hz, k TI (by simp) _ hTI, ⟨x, y, k TO (by simp) _ hTO⟩, h1.at fun o q => k i1 (by simp) o q, h2.at fun o q => k i2 (by simp) o q⟩
  item := by
    intro X hP hw hK hc i pins s σ H E I hf st hg
    subst hP hw hK
    obtain ⟨hz, hTI, ⟨x0, y0, hTO⟩, h1, h2⟩ := st
    obtain ⟨xs, ys, x, y, hqx, hqy, hx, hy⟩ := hg
    obtain ⟨its, rv, p, _⟩ := inv_seq I hqx
    obtain ⟨its2, rv2, p2, _⟩ := inv_seq I hqy
    obtain ⟨u1, hu, ru⟩ := rv.get hx
    obtain ⟨u2, hu2, ru2⟩ := rv2.get hy
    have hzl : z < s.heap.objs.size := Heap.lt_size hz
    have S : ZipSep2 z TI TO i1 i2 [i1, a] [i2, b] := zip_sepX D
    have hA : X.A.in1.handled = none := I.ok.hd hc
    refine wpAny_pyNext_zipD2_item S (Draws.seq hA t i1 a (seq_it_ne p h1) its.toArray) (Draws.seq hA u i2 b (seq_it_ne p2 h2) its2.toArray) hz hTI hTO ⟨h1, p⟩ ⟨h2, p2⟩
      (by have := (List.getElem?_eq_some_iff.mp hx).1; have l := rv.length; simp; omega) (by have := (List.getElem?_eq_some_iff.mp hy).1; have l := rv2.length; simp; omega)
      fun x1 x2 h' tk q1 q2 z' TO' h1' h2' hT hsz hk => ?_
    have e1 : x1 = u1 := by
      have : its.toArray[i]? = some x1 := q1
      rw [List.getElem?_toArray, hu] at this
      exact (Option.some.inj this).symm
    have e2 : x2 = u2 := by
      have : its2.toArray[i]? = some x2 := q2
      rw [List.getElem?_toArray, hu2] at this
      exact (Option.some.inj this).symm
    subst e1 e2
    refine ⟨_, rfl, wpAny_letOwnedTupleGo_zip (s := { s with heap := h', toks := tk }) z' fun h'' z'' sb => ?_⟩
    have hT2 : h''.get? s.heap.objs.size = some { cls := .type "tuple", data := .seq #[x1, x2] } := (sb.2 _ (Nat.ne_of_gt hzl)).trans hT
    have new : ObjOk X.prog X.w (upd H s.heap.objs.size (.tup [x, y])) h'' s.heap.objs.size (.tup [x, y]) :=
      ⟨by show 2 ≤ sizeLine; decide, [x1, x2], .cons ru (.cons ru2 .nil), ⟨_, hT2, rfl, _, rfl⟩⟩
    have I1 : Inv X pins σ (upd H s.heap.objs.size (.tup [x, y])) { s with heap := h'', toks := tk } :=
      I.turnedNew (t' := tk) (ch := [z, TI, TO, i1, i2]) (fun c o hb q => (sb.2 c (fun q' => hb (by simp [q']))).trans (hk c o (fun q' => hb (by simp [q'])) (fun q' => hb (by simp [q'])) (fun q' => hb (by simp [q'])) (fun q' => hb (by simp [q'])) q)) hf (Nat.le_refl _) new
    refine ⟨.ref s.heap.objs.size, _, I1, rfl, ⟨_, x, y, rfl, I.hok.fresh (Nat.le_refl _), rfl, fun l hl => by rw [inv_seq_inj I hl hqx]; exact hx, fun l hl => by rw [inv_seq_inj I hl hqy]; exact hy⟩, ⟨z'', ?_, ⟨x1, x2, ?_⟩, ?_, ?_⟩, fun c hcm => ?_⟩
    · exact (sb.2 _ D.TIz).trans (hk _ _ D.TIz D.TITO D.TIi1 D.TIi2 hTI)
    · exact (sb.2 _ D.TOz).trans TO'
    · exact h1'.1.at fun o q => (sb.2 _ D.i1z).trans q
    · exact h2'.1.at fun o q => (sb.2 _ D.i2z).trans q
    · have hlt : c < s.heap.objs.size := by
        have e' : c = z ∨ c = TI ∨ c = TO ∨ c = i1 ∨ c = i2 := by simpa using hcm
        rcases e' with q | q | q | q | q
        · rw [q]; exact hzl
        · rw [q]; exact Heap.lt_size hTI
        · rw [q]; exact Heap.lt_size hTO
        · rw [q]; obtain ⟨_, e1, _⟩ := h1.obj; exact Heap.lt_size e1
        · rw [q]; obtain ⟨_, e2, _⟩ := h2.obj; exact Heap.lt_size e2
      rw [upd_ne (Nat.ne_of_lt hlt)]
      exact (hf c hcm).1
  done := by
    intro X hP hw hK hc i pins s σ H E I hf st hg
    subst hP hw hK
    obtain ⟨hz, hTI, ⟨x0, y0, hTO⟩, h1, h2⟩ := st
    obtain ⟨xs, ys, hqx, hqy, l3, l4, hend⟩ := hg
    obtain ⟨its, rv, p, _⟩ := inv_seq I hqx
    obtain ⟨its2, rv2, p2, _⟩ := inv_seq I hqy
    have l1 := rv.length
    have l2 := rv2.length
    have S : ZipSep2 z TI TO i1 i2 [i1, a] [i2, b] := zip_sepX D
    have hA : X.A.in1.handled = none := I.ok.hd hc
    exact wpAny_pyNext_zipD2_end S (Draws.seq hA t i1 a (seq_it_ne p h1) its.toArray) (Draws.seq hA u i2 b (seq_it_ne p2 h2) its2.toArray) hz hTI hTO ⟨h1, p⟩ ⟨h2, p2⟩ (by simp; omega) (by simp; omega) (by simp; omega)
      fun h' tk hk => ⟨rfl, I.turnedL (t' := tk) (ch := [z, TI, TO, i1, i2]) (fun c o hb q =>
        hk c o (fun q' => hb (by simp [q'])) (fun q' => hb (by simp [q'])) (fun q' => hb (by simp [q'])) (fun q' => hb (by simp [q'])) q) hf⟩
  self := fun A i s Q E st h => wpAny_pyIter_zip st.1 h
def iZipX (K : PySem.W.Frag) (ta : TA) : TI := fun σ H R => ta σ H fun vs H1 => ∃ a b xs ys t u, vs = [.ref a, .ref b] ∧ SqX K H1 a xs t ∧ SqX K H1 b ys u ∧ R (ItzX K a b t u) H1
theorem pi_zipX {X : Cx} {e e2 : Expr} {ta : TA} {p pos tpos : Pos} {elts : List Expr} {kk : Nat} (hg : Gl X "zip") (hm : X.mg "zip" = none) (ha : PA X [e, e2] ta)
    (hs : starEach [e, e2] X.env = (false, eval e X.env) :: starEach [e2] X.env := by rfl) (hpl : (backTo pos (starEach [e2] X.env)).any (·.1) = false := by rfl) :
    PI X (.Tuple elts kk tpos) (.Call (.Name "zip" p) [e, e2] [] pos) (iZipX X.K ta) := by
  refine ⟨fun pins s σ H R I h => ?_⟩
  refine PyProof.Rows.Call_ (ld_blt I hg hm PyProof.Rows.boot_zip (PyProof.Rows.callWith_type1 (thn (ha.run pos pins s σ H _ I h) fun us s1 ⟨vs, H1, I1, r1, q1⟩ => ?_) hs hpl))
  obtain ⟨a, b, xs, ys, t, u, ex, hqx, hqy, q⟩ := q1
  subst ex
  cases r1 with
  | cons r rr =>
    cases rr with
    | cons r' rr =>
      cases rr
      cases r
      cases r'
      obtain ⟨its, rv, p1, _⟩ := inv_seq I1 hqx
      obtain ⟨its2, rv2, p2, _⟩ := inv_seq I1 hqy
      refine zip_begins2 (begins_seq t a its.toArray) (begins_seq u b its2.toArray) p1 p2 fun h' hz hTI hTO h1 h2 hsz hk => wpAny_pyIter_zip hz ?_
      have I2 : Inv X pins σ H1 { s1 with heap := h' } := I1.kept (t' := s1.toks) hk
      refine ⟨s1.heap.objs.size + 4, [s1.heap.objs.size + 4, s1.heap.objs.size + 2, s1.heap.objs.size + 3, s1.heap.objs.size, s1.heap.objs.size + 1], _, _, H1, rfl, I2, turn_zipX (PySem.W.ktu_apart s1.heap.objs.size a b p1.lt p2.lt), ⟨hz, hTI, ⟨_, _, hTO⟩, seqIt_of h1, seqIt_of h2⟩, fun c hcm => ?_, q⟩
      have e' : c = s1.heap.objs.size + 4 ∨ c = s1.heap.objs.size + 2 ∨ c = s1.heap.objs.size + 3 ∨ c = s1.heap.objs.size ∨ c = s1.heap.objs.size + 1 := by simpa using hcm
      have hle : s1.heap.objs.size ≤ c := by
        rcases e' with z | z | z | z | z
        · rw [z]; exact Nat.le_add_right _ _
        · rw [z]; exact Nat.le_add_right _ _
        · rw [z]; exact Nat.le_add_right _ _
        · rw [z]; exact Nat.le_refl _
        · rw [z]; exact Nat.le_add_right _ _
      exact I1.fpOk hle (I1.hok.fresh hle)
end DL
end
section
set_option maxRecDepth 100000
set_option maxHeartbeats 4000000
/-! DL6: targets, what is walked, statements, calls of defs, a def's promise. -/
namespace DL
open PySem L2

/-! ### slots are set -/
section
variable {ρ ρ1 : En} {σ : L2.St} {G H G1 H1 : Hp}
theorem ownAt_set {i : Nat} {sv : SV} {x : Option V} {j : Nat} {a : Addr} (h : OwnAt (ρ.set i sv) (σ.set i x) j a) (hj : j ≠ i) : OwnAt ρ σ j a := by
  obtain ⟨⟨s, h1, h2⟩, h3⟩ := h
  rw [List.getElem?_set_ne (Ne.symm hj)] at h1 h3
  exact ⟨⟨s, h1, h2⟩, h3⟩
theorem ownAt_set_imm {i : Nat} {d : Dt} {x : Option V} {j : Nat} {a : Addr} (h : OwnAt (ρ.set i (.imm d)) (σ.set i x) j a) : j ≠ i ∧ OwnAt ρ σ j a := by
  have hj : j ≠ i := by
    rintro rfl
    obtain ⟨⟨s, h1, h2⟩, h3⟩ := h
    by_cases c : j < ρ.length
    · rw [List.getElem?_set_self c] at h1; cases h1; cases h2
    · rw [List.getElem?_eq_none (by simpa using c)] at h1; cases h1
  exact ⟨hj, ownAt_set h hj⟩
theorem Rel.setImm {i : Nat} {d : Dt} {v : V} (r : Rel ρ σ G H) (h : Rp G v d) : Rel (ρ.set i (.imm d)) (σ.set i (some v)) G H where
  ex := r.ex
  slot := fun j sv hj => by
    by_cases c : j = i
    · subst c
      by_cases c : j < ρ.length
      · rw [List.getElem?_set_self c] at hj
        cases hj
        rw [List.getElem?_set_self (by rw [← r.len]; exact c)]
        exact ⟨v, rfl, h⟩
      · rw [List.getElem?_eq_none (by simpa using c)] at hj; cases hj
    · rw [List.getElem?_set_ne (Ne.symm c)] at hj ⊢
      exact r.slot j sv hj
  sep := fun j k a h1 h2 => r.sep j k a (ownAt_set_imm h1).2 (ownAt_set_imm h2).2
  len := by rw [List.length_set, List.length_set]; exact r.len
theorem Rel.setOwn {i : Nat} {sv : SV} {a : Addr} (r : Rel ρ σ G H) (h : ObjR G H a sv) (n : ¬ Own ρ σ a) : Rel (ρ.set i sv) (σ.set i (some (.ref a))) G H where
  ex := r.ex
  slot := fun j s hj => by
    by_cases c : j = i
    · subst c
      by_cases c : j < ρ.length
      · rw [List.getElem?_set_self c] at hj
        cases hj
        rw [List.getElem?_set_self (by rw [← r.len]; exact c)]
        exact .mk h
      · rw [List.getElem?_eq_none (by simpa using c)] at hj; cases hj
    · rw [List.getElem?_set_ne (Ne.symm c)] at hj ⊢
      exact r.slot j s hj
  sep := fun j k b h1 h2 => by
    have at_i : ∀ {j : Nat} {b : Addr}, OwnAt (ρ.set i sv) (σ.set i (some (.ref a))) j b → j = i → b = a := fun {j b} q e => by
      subst e
      obtain ⟨_, q⟩ := q
      by_cases c : j < σ.length
      · rw [List.getElem?_set_self c] at q; cases q; rfl
      · rw [List.getElem?_eq_none (by simpa using c)] at q; cases q
    by_cases c : j = i
    · by_cases c' : k = i
      · rw [c, c']
      · have e := at_i h1 c
        subst e
        exact absurd ⟨k, ownAt_set h2 c'⟩ n
    · by_cases c' : k = i
      · have e := at_i h2 c'
        subst e
        exact absurd ⟨j, ownAt_set h1 c⟩ n
      · exact r.sep j k b (ownAt_set h1 c) (ownAt_set h2 c')
  len := by rw [List.length_set, List.length_set]; exact r.len
end

/-! ### targets -/
abbrev MG := Dt → En → Option En
def mgN (i : Nat) : MG := fun d ρ => match ρ[i]? with
  | some sv => if isPin sv then none else some (ρ.set i (.imm d))
  | none => none
def mgs : List MG → List Dt → En → Option En
  | [], [], ρ => some ρ
  | g :: gs, d :: ds, ρ => match g d ρ with
    | some ρ1 => mgs gs ds ρ1
    | none => none
  | _, _, _ => none
def mgT (gs : List MG) : MG := fun d ρ => match d with
  | .tuple ds => mgs gs ds ρ
  | _ => none
structure TgR (is : List Nat) (ρ : En) (σ : L2.St) (ρ' : En) (σ' : L2.St) : Prop where
  out : ∀ j, j ∉ is → ρ'[j]? = ρ[j]? ∧ σ'[j]? = σ[j]?
  own : ∀ j a, OwnAt ρ' σ' j a → OwnAt ρ σ j a
  pin : ∀ (j : Nat) sv, j ∈ is → ρ[j]? = some sv → isPin sv = false
  len : σ'.length = σ.length
def SimG (is : List Nat) (m : MG) (g : TG) : Prop := ∀ d ρ ρ' σ v G H (Q : L2.St → Hp → Prop), m d ρ = some ρ' → Rel ρ σ G H → Rp G v d → (∀ σ', Rel ρ' σ' G H → TgR is ρ σ ρ' σ' → Q σ' H) → g v σ H Q
def SimGs (is : List Nat) (m : List Dt → En → Option En) (g : TGs) : Prop := ∀ ds ρ ρ' σ vs G H (Q : L2.St → Hp → Prop), m ds ρ = some ρ' → Rel ρ σ G H → RpAll G vs ds → (∀ σ', Rel ρ' σ' G H → TgR is ρ σ ρ' σ' → Q σ' H) → g vs σ H Q
structure DG (X : Cx) (tg : Expr) (is : List Nat) (g : TG) (m : MG) : Prop where
  pg : PG X tg g
  sim : SimG is m g
structure DGs (X : Cx) (ts : List Expr) (is : List Nat) (g : TGs) (ms : List MG) : Prop where
  pg : PGs X ts g
  sim : SimGs is (mgs ms) g
section
variable {X : Cx} {pos : Pos}
theorem TgR.trans {is js : List Nat} {ρ ρ1 ρ2 : En} {σ σ1 σ2 : L2.St} (a : TgR is ρ σ ρ1 σ1) (b : TgR js ρ1 σ1 ρ2 σ2) (ki : ∀ (j : Nat) sv, j ∈ is → ρ1[j]? = some sv → isPin sv = false) : TgR (is ++ js) ρ σ ρ2 σ2 where
  out := fun j hj => by
    rw [List.mem_append, not_or] at hj
    exact ⟨(b.out j hj.2).1.trans (a.out j hj.1).1, (b.out j hj.2).2.trans (a.out j hj.1).2⟩
  own := fun j x h => a.own j x (b.own j x h)
  pin := fun j sv hj h => by
    by_cases c : j ∈ is
    · exact a.pin j sv c h
    · rcases List.mem_append.mp hj with q | q
      · exact absurd q c
      · exact b.pin j sv q (by rw [(a.out j c).1]; exact h)
  len := b.len.trans a.len
theorem sim_gName {i : Nat} : SimG [i] (mgN i) (gName i) := fun d ρ ρ' σ v G H Q e rl rp q => by
  unfold mgN at e
  split at e
  · rename_i sv hi
    split at e
    · cases e
    · rename_i c
      cases e
      refine q _ (rl.setImm rp) ⟨fun j hj => ?_, fun j a o => (ownAt_set_imm o).2, fun j s hj h => ?_, by simp⟩
      · have hj : j ≠ i := by simpa using hj
        exact ⟨List.getElem?_set_ne (Ne.symm hj), List.getElem?_set_ne (Ne.symm hj)⟩
      · have hj : j = i := by simpa using hj
        subst hj
        rw [hi] at h
        cases h
        simpa using c
  · cases e
theorem dg_name (i : Nat) {x : Str} (hN : X.N.Nodup) (hi : X.N[i]? = some x := by rfl) (hx : Loc X.env.scope x := by first | exact Or.inl rfl | exact Or.inr rfl) (hf : X.fn x = true ∨ X.env.scope.names.lookup x = some .local := by first | exact .inl rfl | exact .inr rfl | assumption) :
    DG X (.Name x pos) [i] (gName i) (mgN i) := ⟨pg_name hN hi hx hf, sim_gName⟩
theorem dgs_nil : DGs X [] [] gNil [] := ⟨pgs_nil, fun ds ρ ρ' σ vs G H Q e rl rp q => by
  cases ds with
  | nil =>
    cases e
    cases rp
    exact ⟨rfl, q σ rl ⟨fun _ _ => ⟨rfl, rfl⟩, fun _ _ h => h, fun _ _ h => absurd h (by simp), rfl⟩⟩
  | cons _ _ => cases e⟩
/-- a slot that was set holds no pin -/
def NoPin (is : List Nat) (m : MG) : Prop := ∀ d ρ ρ', m d ρ = some ρ' → ∀ (j : Nat) sv, j ∈ is → ρ'[j]? = some sv → isPin sv = false
theorem noPin_name {i : Nat} : NoPin [i] (mgN i) := fun d ρ ρ' e j sv hj h => by
  have hj : j = i := by simpa using hj
  subst hj
  unfold mgN at e
  split at e
  · split at e
    · cases e
    · cases e
      by_cases c : j < ρ.length
      · rw [List.getElem?_set_self c] at h; cases h; rfl
      · rw [List.getElem?_eq_none (by simpa using c)] at h; cases h
  · cases e
theorem dgs_cons {e : Expr} {es : List Expr} {is js : List Nat} {g : TG} {gs : TGs} {m : MG} {ms : List MG} (h1 : DG X e is g m) (h2 : DGs X es js gs ms) (np : NoPin is m)
    (hs : (assignEach (e :: es) X.env).map (·.2) = assign e X.env :: (assignEach es X.env).map (·.2) := by rfl) : DGs X (e :: es) (is ++ js) (gCons g gs) (m :: ms) :=
  ⟨pgs_cons h1.pg h2.pg hs, fun ds ρ ρ' σ vs G H Q e rl rp q => by
    cases ds with
    | nil => cases e
    | cons d ds =>
      cases rp with
      | cons r1 r2 =>
        simp only [mgs] at e
        split at e
        · rename_i ρ1 e1
          refine ⟨_, _, rfl, h1.sim d ρ ρ1 σ _ G H _ e1 rl r1 fun σ1 rl1 t1 => ?_⟩
          exact h2.sim ds ρ1 ρ' σ1 _ G H Q e rl1 r2 fun σ2 rl2 t2 => q σ2 rl2 (t1.trans t2 (np _ _ _ e1))
        · cases e⟩
theorem dg_tup {es : List Expr} {k : Nat} {is : List Nat} {g : TGs} {ms : List MG} {n : Nat} (h : DGs X es is g ms) (hl : ms.length = n := by rfl) (hc : X.calm = true := by rfl)
    (hn : (assignEach es X.env).length = n := by rfl) (hst : (assignEach es X.env).findIdx? (·.1) = none := by rfl) : DG X (.Tuple es k pos) is (gTup X.K n g) (mgT ms) :=
  ⟨pg_tup hc h.pg hn hst, fun d ρ ρ' σ v G H Q e rl rp q => by
    unfold mgT at e
    split at e
    · rename_i ds
      cases rp with
      | tup r1 r2 =>
        have lens : ∀ {ms : List MG} {ds : List Dt} {ρ ρ' : En}, mgs ms ds ρ = some ρ' → ds.length = ms.length := by
          intro ms
          induction ms with
          | nil => intro ds ρ ρ' h; cases ds with
            | nil => rfl
            | cons _ _ => cases h
          | cons m ms ih => intro ds ρ ρ' h; cases ds with
            | nil => cases h
            | cons d ds =>
              simp only [mgs] at h
              split at h
              · rw [List.length_cons, List.length_cons, ih h]
              · cases h
        exact ⟨_, _, rfl, SqT.of (rl.ex _ _ r1), by rw [r2.length, lens e, hl], h.sim ds ρ ρ' σ _ G H Q e rl r2 q⟩
    · cases e⟩
end

/-! ### what is walked -/
/-- J walks the data ds, as long as what G knows stands (and the own lists told) -/
abbrev Gd := List (Nat × List Dt)
abbrev Ga := List (Addr × List Dt)
def Walks (J : It) (G : Hp) (as : Ga) (ds : List Dt) : Prop := ∀ G2 H2, Ex G G2 → Ex G2 H2 → (∀ x ∈ as, ∃ vs, H2 x.1 = some (.lst vs) ∧ RpAll G2 vs x.2) → ∀ (j : Nat),
  (∀ d, ds[j]? = some d → J.go j H2 ∧ ∀ x H3, J.yld j H2 x H3 → ∃ G3, Grow G2 H2 G3 H3 ∧ Rp G3 x d) ∧ (j = ds.length → J.stop j H2)
def guardR (σ : L2.St) (ρ : En) (gs : Gd) (as : Ga) : Prop := Paired (fun (g : Nat × List Dt) (a : Addr × List Dt) => σ[g.1]? = some (some (.ref a.1)) ∧ a.2 = g.2 ∧ ∃ b, ρ[g.1]? = some (.lst b g.2)) gs as
def SimI (m : M (List Dt × Gd)) (wi : TI) : Prop := ∀ ρ ds g ρ' σ G H (R : It → Hp → Prop), m ρ = some ((ds, g), ρ') → Rel ρ σ G H → (∀ J a G' H', Go ρ σ G H ρ' G' H' → guardR σ ρ' g a → Walks J G' a ds → R J H') → wi σ H R
structure DI (X : Cx) (tg iter : Expr) (wi : TI) (m : M (List Dt × Gd)) : Prop where
  pi : PI X tg iter wi
  sim : SimI m wi
section
variable {X : Cx} {tg e e2 : Expr} {te : TE} {me me2 : M BR} {pos p tpos : Pos}
def gIx (ds : List Dt) : BR → Gd
  | .val _ => []
  | .own i => [(i, ds)]
/-- over a list or a tuple -/
def mSeq1 (m : M BR) : M (List Dt × Gd) := bnd m fun b => fun ρ => match (brD ρ b).bind seqD with
  | some ds => some ((ds, gIx ds b), ρ)
  | none => none
def iSeq (K : PySem.W.Frag) (te : TE) : TI := fun σ H R => te σ H fun x H1 => ∃ a, x = .ref a ∧ (((∃ xs, SqL K H1 a xs) ∧ R (Itl K a) H1) ∨ ((∃ xs, SqT K H1 a xs) ∧ R (Itt K a) H1))
theorem pi_seq (hl : PE X e te) : PI X tg e (iSeq X.K te) := by
  refine ⟨fun pins s σ H R I h => ?_⟩
  refine thn (hl.run pins s σ H _ I h) fun v s1 ⟨x, H1, I1, r1, q1⟩ => ?_
  obtain ⟨a, e, q1⟩ := q1
  subst e
  cases r1
  have fp : ∀ b ∈ [s1.heap.objs.size], FpOk X pins H1 b := fun b hb => by
    have e : b = s1.heap.objs.size := by simpa using hb
    subst e
    exact I1.fpOk (Nat.le_refl _) (I1.hok.fresh (Nat.le_refl _))
  rcases q1 with ⟨⟨xs, hq⟩, q⟩ | ⟨⟨xs, hq⟩, q⟩
  · obtain ⟨its, rv, p, hz⟩ := I1.list hq
    refine wpAny_pyIter_list p.isList ?_
    exact ⟨s1.heap.objs.size, [s1.heap.objs.size], _, _, H1, rfl, I1.kept (t' := s1.toks) fun b o e => Heap.get?_push_of_some _ e, turn_list a _, ⟨_, Heap.get?_push_size _ rfl, rfl, rfl⟩, fp, q⟩
  · obtain ⟨its, rv, p, hz⟩ := I1.tuple hq
    refine wpAny_pyIter_tuple (show s1.heap.IsTuple a its.toArray from p) ?_
    exact ⟨s1.heap.objs.size, [s1.heap.objs.size], _, _, H1, rfl, I1.kept (t' := s1.toks) fun b o e => Heap.get?_push_of_some _ e, turn_tuple a _, ⟨_, Heap.get?_push_size _ rfl, rfl, rfl⟩, fp, q⟩
/-- where a sequence stands: known, or guarded -/
def SrcAt (G : Hp) (t : Bool) (p : Addr) (ds : List Dt) (g : Ga) : Prop := (∃ vs, G p = some (if t then .tup vs else .lst vs) ∧ RpAll G vs ds) ∨ (t = false ∧ (p, ds) ∈ g)
theorem srcAt_of {ρ : En} {σ : L2.St} {G H : Hp} (r : Rel ρ σ G H) {v : V} {b : BR} {d : Dt} {ds : List Dt} (h1 : brD ρ b = some d) (h2 : seqD d = some ds) (hb : BrR ρ σ G v b) :
    ∃ p t g, v = .ref p ∧ SrcAt G t p ds g ∧ guardR σ ρ (gIx ds b) g ∧ (∃ vs, H p = some (if t then .tup vs else .lst vs)) := by
  cases b with
  | val d' =>
    cases h1
    cases d <;> cases h2
    · cases hb with
      | lst k1 k2 => exact ⟨_, false, [], rfl, .inl ⟨_, k1, k2⟩, .nil, _, r.ex _ _ k1⟩
    · cases hb with
      | tup k1 k2 => exact ⟨_, true, [], rfl, .inl ⟨_, k1, k2⟩, .nil, _, r.ex _ _ k1⟩
  | own i =>
    unfold brD at h1
    simp only at h1
    split at h1
    · rename_i pp es hi
      cases h1
      cases h2
      obtain ⟨k1, _⟩ := hb
      obtain ⟨a, k2, k3, vs, k4, k5⟩ := r.slot i _ hi
      rw [k1] at k2
      cases k2
      exact ⟨a, false, [(a, ds)], rfl, .inr ⟨rfl, by simp⟩, .cons ⟨k1, rfl, _, hi⟩ .nil, vs, k4⟩
    · cases h1; cases h2
    · cases h1
/-- what stands there at a later time -/
theorem SrcAt.later {K : PySem.W.Frag} {G G2 H2 : Hp} {t : Bool} {p : Addr} {ds : List Dt} {g : Ga} (s : SrcAt G t p ds g) (e1 : Ex G G2) (e2 : Ex G2 H2) (hg : ∀ x ∈ g, ∃ vs, H2 x.1 = some (.lst vs) ∧ RpAll G2 vs x.2) :
    ∃ vs, RpAll G2 vs ds ∧ SqX K H2 p vs t := by
  rcases s with ⟨vs, h1, h2⟩ | ⟨rfl, h⟩
  · have h3 := e2 _ _ (e1 _ _ h1)
    refine ⟨vs, RpAll.ex e1 _ h2, ?_⟩
    cases t with
    | true => exact SqT.of h3
    | false => exact SqL.of h3
  · obtain ⟨vs, h1, h2⟩ := hg _ h
    exact ⟨vs, h2, SqL.of h1⟩
theorem sim_seq1 {K : PySem.W.Frag} (s : SimB me te) : SimI (mSeq1 me) (iSeq K te) := fun ρ ds g ρ' σ G H R e rl q => by
  obtain ⟨b, ρ1, h1, h2⟩ := bnd_some e
  split at h2
  · rename_i es hd
    cases h2
    refine s ρ b _ σ G H _ h1 rl fun v G1 H1 g1 b1 => ?_
    cases e1 : brD ρ' b with
    | none => rw [e1] at hd; cases hd
    | some d =>
      rw [e1] at hd
      obtain ⟨p, t, ga, rfl, src, gr, vs0, hp⟩ := srcAt_of g1.rel e1 hd b1
      cases t with
      | false =>
        refine ⟨p, rfl, .inl ⟨⟨vs0, SqL.of hp⟩, q _ ga G1 H1 g1 gr fun G2 H2 x1 x2 hg j => ?_⟩⟩
        obtain ⟨vs, k1, k2⟩ := src.later (K := K) x1 x2 hg
        refine ⟨fun d' hd' => ?_, fun hj => ⟨vs, k2, by rw [k1.length, hj]; exact Nat.le_refl _⟩⟩
        obtain ⟨v, k3, k4⟩ := k1.get hd'
        refine ⟨⟨vs, v, k2, k3⟩, fun x H3 y => ?_⟩
        obtain ⟨rfl, y⟩ := y
        have := y vs k2
        rw [k3] at this
        cases this
        exact ⟨G2, Grow.refl x2, k4⟩
      | true =>
        refine ⟨p, rfl, .inr ⟨⟨vs0, SqT.of hp⟩, q _ ga G1 H1 g1 gr fun G2 H2 x1 x2 hg j => ?_⟩⟩
        obtain ⟨vs, k1, k2⟩ := src.later (K := K) x1 x2 hg
        refine ⟨fun d' hd' => ?_, fun hj => ⟨vs, k2, by rw [k1.length, hj]; exact Nat.le_refl _⟩⟩
        obtain ⟨v, k3, k4⟩ := k1.get hd'
        refine ⟨⟨vs, v, k2, k3⟩, fun x H3 y => ?_⟩
        obtain ⟨rfl, y⟩ := y
        have := y vs k2
        rw [k3] at this
        cases this
        exact ⟨G2, Grow.refl x2, k4⟩
  · cases h2
theorem di_seq {K : PySem.W.Frag} (h : DB X e te me) (hK : X.K = K := by rfl) : DI X tg e (iSeq K te) (mSeq1 me) := by
  subst hK
  exact ⟨pi_seq h.pe, sim_seq1 h.sim⟩
/-- enumerate -/
def enumD (ds : List Dt) : List Dt := ds.zipIdx.map fun x => .tuple [.int (x.2 : Nat), x.1]
def mEnum (m : M BR) : M (List Dt × Gd) := bnd (mSeq1 m) fun x => ret (enumD x.1, x.2)
theorem enumD_get {ds : List Dt} {j : Nat} {d : Dt} (h : (enumD ds)[j]? = some d) : ∃ d', ds[j]? = some d' ∧ d = .tuple [.int (j : Nat), d'] := by
  unfold enumD at h
  rw [List.getElem?_map, List.getElem?_zipIdx] at h
  cases e : ds[j]? with
  | none => rw [e] at h; cases h
  | some d' =>
    rw [e] at h
    simp at h
    exact ⟨d', rfl, h.symm⟩
theorem enumD_len (ds : List Dt) : (enumD ds).length = ds.length := by simp [enumD]
end
end DL
end
section
set_option maxRecDepth 100000
set_option maxHeartbeats 4000000
/-! DL7: enumerate, zip, range; comprehensions. -/
namespace DL
open PySem L2
section
variable {X : Cx} {tg e e2 : Expr} {te te2 : TE} {me me2 : M BR} {pos p tpos : Pos} {K : PySem.W.Frag}
theorem sqX_of {H : Hp} {t : Bool} {p : Addr} {vs : List V} (h : H p = some (if t then .tup vs else .lst vs)) : SqX K H p vs t := by
  cases t with
  | true => exact SqT.of h
  | false => exact SqL.of h
theorem rp_pair {G H : Hp} {T : Addr} {x y : V} {d d' : Dt} (e : Ex G H) (hT : H T = none) (h1 : Rp G x d) (h2 : Rp G y d') : Grow G H (upd G T (.tup [x, y])) (upd H T (.tup [x, y])) ∧ Rp (upd G T (.tup [x, y])) (.ref T) (.tuple [d, d']) :=
  have n := Ex.new (o := .tup [x, y]) (e.free hT)
  ⟨Grow.known e hT, .tup upd_same (.cons (Rp.ex n _ h1) (.cons (Rp.ex n _ h2) .nil))⟩
theorem sim_enum (s : SimB me te) : SimI (mEnum me) (iEnumX K (tCons te tNil)) := fun ρ ds g ρ' σ G H R e rl q => by
  obtain ⟨⟨es, gg⟩, ρ1, h0, h3⟩ := bnd_some e
  obtain ⟨e0, rfl⟩ := ret_some h3
  cases e0
  obtain ⟨b, ρ1, h1, h2⟩ := bnd_some h0
  split at h2
  · rename_i es' hd
    cases h2
    refine s ρ b _ σ G H _ h1 rl fun v G1 H1 g1 b1 => ?_
    cases e1 : brD ρ' b with
    | none => rw [e1] at hd; cases hd
    | some d =>
      rw [e1] at hd
      obtain ⟨p, t, ga, rfl, src, gr, vs0, hp⟩ := srcAt_of g1.rel e1 hd b1
      refine ⟨p, vs0, t, rfl, sqX_of hp, q _ ga G1 H1 g1 gr fun G2 H2 x1 x2 hg j => ?_⟩
      obtain ⟨vs, k1, k2⟩ := src.later (K := K) x1 x2 hg
      refine ⟨fun d' hd' => ?_, fun hj => ⟨vs, k2, by rw [k1.length, hj, enumD_len]⟩⟩
      obtain ⟨d0, hd0, rfl⟩ := enumD_get hd'
      obtain ⟨v, k3, k4⟩ := k1.get hd0
      refine ⟨⟨vs, v, k2, k3⟩, fun x H3 y => ?_⟩
      obtain ⟨T, x0, rfl, hT, rfl, y⟩ := y
      have := y vs k2
      rw [k3] at this
      cases this
      obtain ⟨a1, a2⟩ := rp_pair x2 hT (.int (j : Nat)) k4
      exact ⟨_, a1, a2⟩
  · cases h2
theorem di_enum {K : PySem.W.Frag} {elts : List Expr} {kk : Nat} (hm : X.mg "enumerate" = none) (h : DB X e te me) (hg : Gl X "enumerate" := by rfl) (hs : starEach [e] X.env = [(false, eval e X.env)] := by rfl) (hK : X.K = K := by rfl) :
    DI X (.Tuple elts kk tpos) (.Call (.Name "enumerate" p) [e] [] pos) (iEnumX K (tCons te tNil)) (mEnum me) := by
  subst hK
  exact ⟨pi_enumX hg hm (pa_cons h.pe pa_nil hs) hs, sim_enum h.sim⟩
/-- zip -/
def zipD (ds es : List Dt) : List Dt := (ds.zip es).map fun x => .tuple [x.1, x.2]
theorem zipD_get {ds es : List Dt} {j : Nat} {d : Dt} (h : (zipD ds es)[j]? = some d) : ∃ d1 d2, ds[j]? = some d1 ∧ es[j]? = some d2 ∧ d = .tuple [d1, d2] := by
  unfold zipD at h
  rw [List.getElem?_map] at h
  cases e : (ds.zip es)[j]? with
  | none => rw [e] at h; cases h
  | some x =>
    rw [e] at h
    have h : PyData.tuple [x.1, x.2] = d := Option.some.inj h
    obtain ⟨h1, h2⟩ := List.getElem?_zip_eq_some.mp e
    exact ⟨x.1, x.2, h1, h2, h.symm⟩
theorem zipD_len (ds es : List Dt) : (zipD ds es).length = min ds.length es.length := by simp [zipD]
/-- two sources; the second one leaves the first as it is -/
def mZip (a b : M BR) : M (List Dt × Gd) := bnd a fun x => bnd b fun y => fun ρ => match (brD ρ x).bind seqD, (brD ρ y).bind seqD with
  | some ds, some es => some ((zipD ds es, gIx ds x ++ gIx es y), ρ)
  | _, _ => none
theorem Paired.app {α β : Type} {F : α → β → Prop} : ∀ {l₁ m₁ : List α} {l₂ m₂ : List β}, Paired F l₁ l₂ → Paired F m₁ m₂ → Paired F (l₁ ++ m₁) (l₂ ++ m₂)
  | _, _, _, _, .nil, s => s
  | _, _, _, _, .cons r t, s => .cons r (Paired.app t s)
theorem SrcAt.more {G : Hp} {t : Bool} {p : Addr} {ds : List Dt} {g g' : Ga} (s : SrcAt G t p ds g) (h : ∀ x ∈ g, x ∈ g') : SrcAt G t p ds g' := by
  rcases s with s | ⟨h1, h2⟩
  · exact .inl s
  · exact .inr ⟨h1, h _ h2⟩
theorem sim_zip (s : SimB me te) (s2 : SimB me2 te2) : SimI (mZip me me2) (iZipX K (tCons te (tCons te2 tNil))) := fun ρ ds g ρ' σ G H R e rl q => by
  obtain ⟨x, ρ1, h1, h⟩ := bnd_some e
  obtain ⟨y, ρ2, h2, h3⟩ := bnd_some h
  split at h3
  · rename_i ds1 ds2 hd1 hd2
    cases h3
    refine s ρ x ρ1 σ G H _ h1 rl fun v G1 H1 g1 b1 => s2 ρ1 y _ σ G1 H1 _ h2 g1.rel fun v2 G2 H2 g2 b2 => ?_
    have b1 := b1.go g2
    cases e1 : brD ρ' x with
    | none => rw [e1] at hd1; cases hd1
    | some d =>
      rw [e1] at hd1
      cases e2 : brD ρ' y with
      | none => rw [e2] at hd2; cases hd2
      | some d' =>
        rw [e2] at hd2
        obtain ⟨p, t, ga, rfl, src, gr, vs0, hp⟩ := srcAt_of g2.rel e1 hd1 b1
        obtain ⟨p', t', ga', rfl, src', gr', vs0', hp'⟩ := srcAt_of g2.rel e2 hd2 b2
        refine ⟨p, p', vs0, vs0', t, t', rfl, sqX_of hp, sqX_of hp', q _ (ga ++ ga') G2 H2 (g1.trans g2) (Paired.app gr gr') fun G3 H3 x1 x2 hg j => ?_⟩
        obtain ⟨vs, k1, k2⟩ := (src.more (g' := ga ++ ga') fun _ h => List.mem_append_left _ h).later (K := K) x1 x2 hg
        obtain ⟨ws, k1', k2'⟩ := (src'.more (g' := ga ++ ga') fun _ h => List.mem_append_right _ h).later (K := K) x1 x2 hg
        refine ⟨fun d' hd' => ?_, fun hj => ⟨vs, ws, k2, k2', ?_⟩⟩
        · obtain ⟨d1, d2, hd1, hd2, rfl⟩ := zipD_get hd'
          obtain ⟨v, k3, k4⟩ := k1.get hd1
          obtain ⟨w, k3', k4'⟩ := k1'.get hd2
          refine ⟨⟨vs, ws, v, w, k2, k2', k3, k3'⟩, fun x H3 y => ?_⟩
          obtain ⟨T, x0, y0, rfl, hT, rfl, y1, y2⟩ := y
          have := y1 vs k2
          rw [k3] at this
          cases this
          have := y2 ws k2'
          rw [k3'] at this
          cases this
          obtain ⟨a1, a2⟩ := rp_pair x2 hT k4 k4'
          exact ⟨_, a1, a2⟩
        · rw [zipD_len] at hj
          rw [k1.length, k1'.length]
          omega
  · cases h3
theorem di_zip {K : PySem.W.Frag} {elts : List Expr} {kk : Nat} (hm : X.mg "zip" = none) (h : DB X e te me) (h2 : DB X e2 te2 me2) (hg : Gl X "zip" := by rfl) (hs : starEach [e, e2] X.env = (false, eval e X.env) :: starEach [e2] X.env := by rfl)
    (hs2 : starEach [e2] X.env = (false, eval e2 X.env) :: starEach [] X.env := by rfl) (hK : X.K = K := by rfl) : DI X (.Tuple elts kk tpos) (.Call (.Name "zip" p) [e, e2] [] pos) (iZipX K (tCons te (tCons te2 tNil))) (mZip me me2) := by
  subst hK
  exact ⟨pi_zipX hg hm (pa_cons h.pe (pa_cons h2.pe pa_nil hs2) hs) hs (by rw [hs2]; rfl), sim_zip h.sim h2.sim⟩
/-- range -/
def rangeD (lo : Int) (n : Nat) : List Dt := (List.range n).map fun i => .int (lo + (i : Nat))
theorem rangeD_get {lo : Int} {n j : Nat} {d : Dt} (h : (rangeD lo n)[j]? = some d) : j < n ∧ d = .int (lo + (j : Nat)) := by
  unfold rangeD at h
  rw [List.getElem?_map] at h
  cases e : (List.range n)[j]? with
  | none => rw [e] at h; cases h
  | some x =>
    rw [e] at h
    obtain ⟨h1, h2⟩ := List.getElem?_eq_some_iff.mp e
    have h2 : j = x := by simpa using h2
    subst h2
    exact ⟨by simpa using h1, (Option.some.inj h).symm⟩
theorem rangeD_len (lo : Int) (n : Nat) : (rangeD lo n).length = n := by simp [rangeD]
theorem walks_range {G : Hp} {lo : Int} {n : Nat} : Walks (Itr lo n) G [] (rangeD lo n) := fun G2 H2 x1 x2 _ j => by
  refine ⟨fun d hd => ?_, fun hj => ?_⟩
  · obtain ⟨h1, rfl⟩ := rangeD_get hd
    refine ⟨h1, fun x H3 y => ?_⟩
    obtain ⟨rfl, rfl⟩ := y
    exact ⟨G2, Grow.refl x2, .int _⟩
  · rw [rangeD_len] at hj
    exact Nat.le_of_eq hj.symm
def mRng1 (a : M Dt) : M (List Dt × Gd) := bnd a fun d => match d with
  | .int j => if -1000000 ≤ j ∧ j ≤ 1000000 then ret (rangeD 0 j.toNat, []) else lft none
  | _ => lft none
def mRng2 (a b : M Dt) : M (List Dt × Gd) := bnd a fun d => bnd b fun d' => match d, d' with
  | .int i, .int j => if (-1000000 ≤ i ∧ i ≤ 1000000) ∧ -1000000 ≤ j ∧ j ≤ 1000000 then ret (rangeD i (j - i).toNat, []) else lft none
  | _, _ => lft none
variable {na nb : M Dt}
theorem sim_rng1 (s : SimE na te) : SimI (mRng1 na) (iRng1 (tCons te tNil)) := fun ρ ds g ρ' σ G H R e rl q => by
  obtain ⟨d, ρ1, h1, h2⟩ := bnd_some e
  split at h2
  · split at h2
    · rename_i j c
      obtain ⟨e0, rfl⟩ := ret_some h2
      cases e0
      refine s ρ _ _ σ G H _ h1 rl fun v G1 H1 g1 r1 => ?_
      cases r1
      exact ⟨j, rfl, by omega, by omega, q _ [] G1 H1 g1 .nil walks_range⟩
    · cases h2
  · cases h2
theorem sim_rng2 (s : SimE na te) (s2 : SimE nb te2) : SimI (mRng2 na nb) (iRng2 (tCons te (tCons te2 tNil))) := fun ρ ds g ρ' σ G H R e rl q => by
  obtain ⟨d, ρ1, h1, h⟩ := bnd_some e
  obtain ⟨d', ρ2, h2, h3⟩ := bnd_some h
  split at h3
  · split at h3
    · rename_i i j c
      obtain ⟨e0, rfl⟩ := ret_some h3
      cases e0
      refine s ρ _ ρ1 σ G H _ h1 rl fun v G1 H1 g1 r1 => s2 ρ1 _ _ σ G1 H1 _ h2 g1.rel fun v2 G2 H2 g2 r2 => ?_
      cases r1
      cases r2
      exact ⟨i, j, rfl, ⟨by omega, by omega, by omega, by omega⟩, q _ [] G2 H2 (g1.trans g2) .nil walks_range⟩
    · cases h3
  · cases h3
theorem di_rng1 (hm : X.mg "range" = none) (h : DE X e te na) (hg : Gl X "range" := by rfl) (hs : starEach [e] X.env = [(false, eval e X.env)] := by rfl) :
    DI X tg (.Call (.Name "range" p) [e] [] pos) (iRng1 (tCons te tNil)) (mRng1 na) := ⟨pi_range1 hg hm (pa_cons h.pe pa_nil hs) hs, sim_rng1 h.sim⟩
theorem di_rng2 (hm : X.mg "range" = none) (h : DE X e te na) (h2 : DE X e2 te2 nb) (hg : Gl X "range" := by rfl) (hs : starEach [e, e2] X.env = [(false, eval e X.env), (false, eval e2 X.env)] := by rfl) (hs2 : starEach [e2] X.env = [(false, eval e2 X.env)] := by rfl) :
    DI X tg (.Call (.Name "range" p) [e, e2] [] pos) (iRng2 (tCons te (tCons te2 tNil))) (mRng2 na nb) := ⟨pi_range2 hg hm (pa_cons h.pe (pa_cons h2.pe pa_nil hs2) (by rw [hs, hs2])) hs hs2, sim_rng2 h.sim h2.sim⟩
end

/-! ### comprehensions -/
def wipeE (ρ : En) : List Nat → En
  | [] => ρ
  | i :: r => (wipeE ρ r).set i .no
def backE (ρ0 ρ : En) : List Nat → En
  | [] => ρ
  | i :: r => (backE ρ0 ρ r).set i ((ρ0[i]?).getD .no)
def noOwn (ρ : En) (vs : List Nat) : Bool := vs.all fun i => match ρ[i]? with
  | some sv => decide (kind sv ≤ 1)
  | none => true
theorem wipeE_get (ρ : En) (j : Nat) : ∀ vs : List Nat, (wipeE ρ vs)[j]? = if j ∈ vs then (ρ[j]?).map (fun _ => .no) else ρ[j]?
  | [] => by simp [wipeE]
  | i :: r => by
    have ih := wipeE_get ρ j r
    simp only [wipeE, List.getElem?_set]
    by_cases c : i = j
    · subst c
      have hl : (wipeE ρ r).length = ρ.length := by
        clear ih
        induction r with
        | nil => rfl
        | cons a r ih => simp [wipeE, ih]
      by_cases c2 : i < ρ.length
      · simp [hl, c2]
      · simp [hl, c2]
    · have : ¬ j = i := fun h => c h.symm
      simp [c, this, ih]
theorem wipe_get (σ : L2.St) (j : Nat) : ∀ vs : List Nat, (wipe σ vs)[j]? = if j ∈ vs then (σ[j]?).map (fun _ => none) else σ[j]?
  | [] => by simp [wipe]
  | i :: r => by
    have ih := wipe_get σ j r
    show ((wipe σ r).set i none)[j]? = _
    rw [List.getElem?_set]
    by_cases c : i = j
    · subst c
      by_cases c2 : i < σ.length
      · simp [wipe_length, c2]
      · simp [wipe_length, c2]
    · have : ¬ j = i := fun h => c h.symm
      simp [c, this, ih]
theorem backE_get (ρ0 ρ : En) (hl : ρ0.length = ρ.length) (j : Nat) : ∀ vs : List Nat, (backE ρ0 ρ vs)[j]? = if j ∈ vs then ρ0[j]? else ρ[j]?
  | [] => by simp [backE]
  | i :: r => by
    have ih := backE_get ρ0 ρ hl j r
    have hb : (backE ρ0 ρ r).length = ρ.length := by
      clear ih
      induction r with
      | nil => rfl
      | cons a r ih => simp [backE, ih]
    simp only [backE, List.getElem?_set]
    by_cases c : i = j
    · subst c
      by_cases c2 : i < ρ.length
      · have c3 : i < ρ0.length := by omega
        simp [hb, c2, c3]
      · have c3 : ¬ i < ρ0.length := by omega
        simp [hb, c2, c3]
    · have : ¬ j = i := fun h => c h.symm
      simp [c, this, ih]
def GuardOk (ρ : En) (gs : Gd) : Prop := ∀ g ∈ gs, ∃ b, ρ[g.1]? = some (.lst b g.2)
abbrev MA := List Dt → M (List Dt)
open Classical in
/-- the turns: the target, the body, which lengthens the list -/
noncomputable def lcGo (gs : Gd) (vs : List Nat) (g : MG) (mb : MA) : List Dt → MA
  | [], acc => ret acc
  | d :: ds, acc => fun ρ => match g d ρ with
    | none => none
    | some ρ1 => match mb acc ρ1 with
      | none => none
      | some (acc', ρ2) => if GuardOk (wipeE ρ2 vs) gs then lcGo gs vs g mb ds acc' (wipeE ρ2 vs) else none
/-- if the test holds, the item -/
def mLeaf (t : M Bool) (el : M Dt) : MA := fun acc => bnd t fun b => if b then bnd el fun x => if acc.length < LIM then ret (acc ++ [x]) else lft none else ret acc
/-- a clause -/
noncomputable def mClause (mi : M (List Dt × Gd)) (vs : List Nat) (g : MG) (mb : MA) : MA := fun acc => bnd mi fun x => fun ρ =>
  if noOwn ρ vs && x.2.all (fun g => decide (g.1 ∉ vs)) then match lcGo x.2 vs g mb x.1 acc (wipeE ρ vs) with
    | some (acc', ρ1) => some (acc', backE ρ ρ1 vs)
    | none => none
  else none
noncomputable def mLc (mi : M (List Dt × Gd)) (vs : List Nat) (g : MG) (mb : MA) : M SV := bnd (mClause mi vs g mb []) fun acc => ret (.lst false acc)
/-- if the test holds, a clause more -/
def mWhen (t : M Bool) (mb : MA) : MA := fun acc => bnd t fun b => if b then mb acc else ret acc
section
variable {ρ ρ1 : En} {σ σ2 : L2.St} {G H G1 H1 : Hp} {vs is : List Nat}
theorem wipe_len (ρ : En) (vs : List Nat) : (wipeE ρ vs).length = ρ.length := by
  induction vs with
  | nil => rfl
  | cons i r ih => simp [wipeE, ih]
theorem back_len (ρ0 ρ : En) (vs : List Nat) : (backE ρ0 ρ vs).length = ρ.length := by
  induction vs with
  | nil => rfl
  | cons i r ih => simp [backE, ih]
/-- the names of a comprehension are wiped -/
theorem ownAt_wipe {j : Nat} {a : Addr} (h : OwnAt (wipeE ρ vs) (wipe σ vs) j a) : j ∉ vs ∧ OwnAt ρ σ j a := by
  obtain ⟨⟨sv, h1, h2⟩, h3⟩ := h
  rw [wipe_get] at h3
  rw [wipeE_get] at h1
  by_cases c : j ∈ vs
  · rw [if_pos c] at h1
    cases e : ρ[j]? with
    | none => rw [e] at h1; cases h1
    | some s => rw [e] at h1; cases h1; cases h2
  · rw [if_neg c] at h1 h3
    exact ⟨c, ⟨sv, h1, h2⟩, h3⟩
/-- .. where another frame of names agrees but at these -/
theorem Rel.wipe (r : Rel ρ σ2 G H) (hs : ∀ j, j ∉ vs → σ2[j]? = σ[j]?) (hl : σ2.length = σ.length) : Rel (wipeE ρ vs) (L2.wipe σ vs) G H where
  ex := r.ex
  slot := fun j sv h => by
    rw [wipeE_get] at h
    by_cases c : j ∈ vs
    · rw [if_pos c] at h
      cases e : ρ[j]? with
      | none => rw [e] at h; cases h
      | some s => rw [e] at h; cases h; trivial
    · rw [if_neg c] at h
      rw [wipe_get, if_neg c, ← hs j c]
      exact r.slot j sv h
  sep := fun i j a h1 h2 => by
    obtain ⟨c1, h1⟩ := ownAt_wipe h1
    obtain ⟨c2, h2⟩ := ownAt_wipe h2
    exact r.sep i j a ⟨h1.1, (hs i c1).trans h1.2⟩ ⟨h2.1, (hs j c2).trans h2.2⟩
  len := by rw [wipe_len, wipe_length, ← hl]; exact r.len
theorem Rel.updH {D : Addr} {o : HO} (r : Rel ρ σ G H) (h1 : G D = none) (hn : ¬ Own ρ σ D) : Rel ρ σ G (upd H D o) where
  ex := r.ex.mut h1
  slot := fun i sv h => by
    have q := r.slot i sv h
    have mv : ∀ b, σ[i]? = some (some (.ref b)) → ObjR G H b sv → ObjR G (upd H D o) b sv := fun b hb ob =>
      ob.move (Ex.refl G) ob.there.1 fun u hu => by
        rw [upd_ne (fun z => hn ⟨i, ⟨sv, h, ob.isOwn⟩, by rw [← z]; exact hb⟩)]
        exact hu
    cases sv with
    | no => trivial
    | imm d => exact q
    | lst p ds => obtain ⟨b, h3, h4⟩ := q; exact ⟨b, h3, mv b h3 h4⟩
    | dic p t ds => obtain ⟨b, h3, h4⟩ := q; exact ⟨b, h3, mv b h3 h4⟩
  sep := r.sep
  len := r.len
theorem Stp.mono {O O' : Addr → Prop} (a : Stp O G H G1 H1) (k : ∀ x, O x → O' x) : Stp O' G H G1 H1 := ⟨a.exG, fun x o h n => a.fr x o h fun z => n (k x z), a.new, a.live⟩
theorem Stp.updD {O : Addr → Prop} {D : Addr} {o : HO} (a : Stp O G H G1 H1) (h : H D = none) : Stp O G H G1 (upd H1 D o) :=
  ⟨a.exG, fun x u h1 n => by rw [upd_ne (ne_of_none h1 h)]; exact a.fr x u h1 n, a.new, fun x hx => by
    by_cases c : x = D
    · rw [c, upd_same]; exact fun q => nomatch q
    · rw [upd_ne c]; exact a.live x hx⟩
theorem wipe_again (h : ∀ j, j ∉ vs → σ2[j]? = (L2.wipe σ vs)[j]?) (hl : σ2.length = (L2.wipe σ vs).length) : L2.wipe σ2 vs = L2.wipe σ vs := by
  apply List.ext_getElem?
  intro j
  rw [wipe_get, wipe_get]
  by_cases c : j ∈ vs
  · rw [if_pos c, if_pos c]
    rw [wipe_length] at hl
    by_cases c2 : j < σ.length
    · rw [List.getElem?_eq_getElem (by omega : j < σ2.length), List.getElem?_eq_getElem c2]; rfl
    · rw [List.getElem?_eq_none (by omega), List.getElem?_eq_none (by omega)]
  · rw [if_neg c, if_neg c, h j c, wipe_get, if_neg c]
end
/-! the list that is made stands at D -/
structure Acc (D : Addr) (ρ : En) (σ : L2.St) (G H : Hp) (acc : List Dt) : Prop where
  rel : Rel ρ σ G H
  n : G D = none
  o : ¬ Own ρ σ D
  l : ∃ vs, H D = some (.lst vs) ∧ RpAll G vs acc
structure AccGo (D : Addr) (ρ : En) (σ : L2.St) (G H : Hp) (acc : List Dt) (ρ' : En) (G' H' : Hp) (acc' : List Dt) : Prop where
  a0 : Acc D ρ σ G H acc
  a1 : Acc D ρ' σ G' H' acc'
  stp : Stp (fun a => Own ρ σ a ∨ a = D) G H G' H'
  same : SameK ρ ρ'
section
variable {D : Addr} {ρ ρ1 ρ2 : En} {σ : L2.St} {G H G1 H1 G2 H2 : Hp} {acc acc1 acc2 : List Dt}
theorem AccGo.refl (a : Acc D ρ σ G H acc) : AccGo D ρ σ G H acc ρ G H acc := ⟨a, a, Stp.refl G H, SameK.refl ρ⟩
theorem AccGo.trans (a : AccGo D ρ σ G H acc ρ1 G1 H1 acc1) (b : AccGo D ρ1 σ G1 H1 acc1 ρ2 G2 H2 acc2) : AccGo D ρ σ G H acc ρ2 G2 H2 acc2 :=
  ⟨a.a0, b.a1, a.stp.trans b.stp fun x o => .inl (o.imp (own_same a.same) id), a.same.trans b.same⟩
/-- a run that leaves the list as it is -/
theorem Acc.go (a : Acc D ρ σ G H acc) (g : Go ρ σ G H ρ1 G1 H1) : AccGo D ρ σ G H acc ρ1 G1 H1 acc := by
  obtain ⟨vs, h1, h2⟩ := a.l
  have n : G1 D = none := g.stp.new D a.n (by rw [h1]; exact fun z => nomatch z)
  exact ⟨a, ⟨g.rel, n, fun o => a.o (own_same g.same o), vs, g.stp.fr D _ h1 a.o, RpAll.ex g.stp.exG _ h2⟩, g.stp.mono fun _ => .inl, g.same⟩
theorem Acc.grow (a : Acc D ρ σ G H acc) (g : Grow G H G1 H1) : AccGo D ρ σ G H acc ρ G1 H1 acc := a.go ((Go.refl a.rel).grow g)
theorem Acc.push (a : Acc D ρ σ G H acc) {vs : List V} (h : H D = some (.lst vs)) {v : V} {d : Dt} (r : Rp G v d) : AccGo D ρ σ G H acc ρ G (upd H D (.lst (vs ++ [v]))) (acc ++ [d]) := by
  obtain ⟨ws, h1, h2⟩ := a.l
  rw [h] at h1
  cases h1
  refine ⟨a, ⟨a.rel.updH a.n a.o, a.n, a.o, _, upd_same, h2.append (.one r)⟩, ⟨Ex.refl G, fun x o hx nx => ?_, fun _ h _ => h, fun x hx => ?_⟩, SameK.refl ρ⟩
  · rw [upd_ne (fun z => nx (.inr z))]; exact hx
  · by_cases c : x = D
    · rw [c, upd_same]; exact fun q => nomatch q
    · rw [upd_ne c]; exact hx
end
def SimM (mb : MA) (tb : Addr → (Hp → Prop) → L2.St → Hp → Prop) : Prop := ∀ D (Nx : Hp → Prop) acc ρ acc' ρ' σ G H, mb acc ρ = some (acc', ρ') → Acc D ρ σ G H acc → (∀ G' H', AccGo D ρ σ G H acc ρ' G' H' acc' → Nx H') → tb D Nx σ H
def tLeaf (tt : TT) (te : TE) : Addr → (Hp → Prop) → L2.St → Hp → Prop := fun D Nx σ H => tt σ H fun b H3 => if b = true then te σ H3 fun y H4 => ∃ acc, H4 D = some (.lst acc) ∧ acc.length < sizeLine ∧ Nx (upd H4 D (.lst (acc ++ [y]))) else Nx H3
theorem sim_leaf {mt : M Bool} {tt : TT} {me : M Dt} {te : TE} (st : SimT mt tt) (se : SimE me te) : SimM (mLeaf mt me) (tLeaf tt te) := fun D Nx acc ρ acc' ρ' σ G H e a q => by
  obtain ⟨b, ρ1, h1, h2⟩ := bnd_some e
  refine st ρ b ρ1 σ G H _ h1 a.rel fun G1 H1 g1 => ?_
  have a1 := a.go g1
  cases b with
  | false =>
    obtain ⟨rfl, rfl⟩ := ret_some h2
    exact q G1 H1 a1
  | true =>
    obtain ⟨x, ρ2, h3, h4⟩ := bnd_some (show bnd me _ ρ1 = _ from h2)
    split at h4
    · rename_i c
      obtain ⟨rfl, rfl⟩ := ret_some h4
      refine se ρ1 x _ σ G1 H1 _ h3 g1.rel fun v G2 H2 g2 r2 => ?_
      have a2 := a1.trans (a1.a1.go g2)
      obtain ⟨vs, k1, k2⟩ := a2.a1.l
      exact ⟨vs, k1, by rw [k2.length]; exact lim_lt (Nat.le_of_lt c), q _ _ (a2.trans (a2.a1.push k1 r2))⟩
    · cases h4
def tTurns (J : It) (g : TG) (vs : List Nat) (tb : Addr → (Hp → Prop) → L2.St → Hp → Prop) (D : Addr) (Fin : Hp → Prop) (σ : L2.St) (H1 : Hp) : Prop := ∃ W : Nat → Nat → Hp → Prop, (∃ m, W 0 m H1) ∧ ∀ i m H, W i m H →
  (J.stop i H ∧ Fin H) ∨ (J.go i H ∧ ∃ Nx : Hp → Prop, (∀ H', Nx H' → ∃ m', m' < m ∧ W (i + 1) m' H') ∧ ∀ x H', J.yld i H x H' → g x (wipe σ vs) H' fun σ2 H2 => wipe σ2 vs = wipe σ vs ∧ tb D Nx σ2 H2)
/-- wiped names: kinds -/
theorem sameK_wipe {ρa ρb ρt ρz : En} {vs : List Nat} (h : SameK ρt ρz) (out : ∀ j : Nat, j ∉ vs → ρt[j]? = ρb[j]?) (hl : ρt.length = ρb.length) : SameK (wipeE ρb vs) (wipeE ρz vs) := by
  apply List.ext_getElem?
  intro j
  have a2 := h.at j
  have l2 := h.len
  rw [List.getElem?_map, List.getElem?_map, wipeE_get, wipeE_get]
  by_cases c : j ∈ vs
  · rw [if_pos c, if_pos c]
    by_cases c2 : j < ρb.length
    · rw [List.getElem?_eq_getElem (by omega : j < ρz.length), List.getElem?_eq_getElem c2]; rfl
    · rw [List.getElem?_eq_none (by omega : ρz.length ≤ j), List.getElem?_eq_none (by omega : ρb.length ≤ j)]
  · rw [if_neg c, if_neg c, a2, out j c]
theorem acc_turns {J : It} {gs : Gd} {as : Ga} {vs is : List Nat} {mg : MG} {g : TG} {mb : MA} {tb : Addr → (Hp → Prop) → L2.St → Hp → Prop} {D : Addr} {ρ ρf : En} {σ : L2.St} {G1 H1 : Hp} {ds acc accf : List Dt} {Fin : Hp → Prop}
    (hsub : ∀ j ∈ is, j ∈ vs) (sg : SimG is mg g) (sb : SimM mb tb) (wk : Walks J G1 as ds) (gr : guardR σ ρ gs as) (hgn : gs.all (fun g => decide (g.1 ∉ vs)) = true) (a0 : Acc D (wipeE ρ vs) (wipe σ vs) G1 H1 acc)
    (h3 : lcGo gs vs mg mb ds acc (wipeE ρ vs) = some (accf, ρf)) (fin : ∀ G' H', (∃ ρb, ρf = wipeE ρb vs) → AccGo D (wipeE ρ vs) (wipe σ vs) G1 H1 acc ρf G' H' accf → Fin H') : tTurns J g vs tb D Fin σ H1 := by
  refine ⟨fun i m H' => m = ds.length - i ∧ i ≤ ds.length ∧ ∃ ρb Gc accd, AccGo D (wipeE ρ vs) (wipe σ vs) G1 H1 acc (wipeE ρb vs) Gc H' accd ∧
    lcGo gs vs mg mb (ds.drop i) accd (wipeE ρb vs) = some (accf, ρf) ∧ GuardOk (wipeE ρb vs) gs, ⟨ds.length, rfl, Nat.zero_le _, ρ, G1, acc, AccGo.refl a0, by rw [List.drop_zero]; exact h3, ?_⟩, ?_⟩
  · intro x hx
    obtain ⟨i, hi⟩ := List.getElem?_of_mem hx
    obtain ⟨a, _, _, _, b, hb⟩ := paired_get gr hi
    refine ⟨b, ?_⟩
    rw [wipeE_get, if_neg (of_decide_eq_true (List.all_eq_true.mp hgn x hx))]
    exact hb
  · rintro i m H' ⟨rfl, hi, ρb, Gc, accd, go, kg, kG⟩
    have hgd : ∀ x ∈ as, ∃ ws, H' x.1 = some (.lst ws) ∧ RpAll Gc ws x.2 := fun x hx => by
      obtain ⟨jx, hjx⟩ := List.getElem?_of_mem hx
      have hlen := Paired.length gr
      have : jx < gs.length := by rw [hlen]; exact (List.getElem?_eq_some_iff.mp hjx).1
      obtain ⟨a, ha, k1, k2, b0, k3⟩ := paired_get gr (List.getElem?_eq_getElem this)
      rw [hjx] at ha
      cases ha
      obtain ⟨b, hb⟩ := kG gs[jx] (List.getElem_mem this)
      obtain ⟨p, k4, k5, ws, k6, k7⟩ := go.a1.rel.slot _ _ hb
      have nv : gs[jx].1 ∉ vs := of_decide_eq_true (List.all_eq_true.mp hgn _ (List.getElem_mem this))
      rw [wipe_get, if_neg nv, k1] at k4
      cases k4
      exact ⟨ws, k6, by rw [k2]; exact k7⟩
    obtain ⟨w1, w2⟩ := wk Gc H' go.stp.exG go.a1.rel.ex hgd i
    by_cases hlt : i < ds.length
    · obtain ⟨go1, yl⟩ := w1 ds[i] (List.getElem?_eq_getElem hlt)
      refine .inr ⟨go1, _, fun H2 n => ⟨ds.length - (i + 1), by omega, n⟩, fun x H3 y => ?_⟩
      obtain ⟨G3, gw, rx⟩ := yl x H3 y
      rw [List.drop_eq_getElem_cons hlt] at kg
      simp only [lcGo] at kg
      split at kg
      · cases kg
      · rename_i ρt et
        have go3 := go.trans (go.a1.grow gw)
        refine sg ds[i] _ ρt (wipe σ vs) x G3 H3 _ et go3.a1.rel rx fun σ2 rl2 tr => ?_
        have out : ∀ j, j ∉ vs → σ2[j]? = (wipe σ vs)[j]? := fun j hj => (tr.out j fun z => hj (hsub j z)).2
        have outE : ∀ j : Nat, j ∉ vs → ρt[j]? = (wipeE ρb vs)[j]? := fun j hj => (tr.out j fun z => hj (hsub j z)).1
        have ownS : ∀ {a}, Own ρt σ2 a → Own (wipeE ρb vs) (wipe σ vs) a := fun ⟨j, o⟩ => ⟨j, tr.own j _ o⟩
        refine ⟨wipe_again out tr.len, ?_⟩
        split at kg
        · cases kg
        · rename_i acc' ρ3 eb
          split at kg
          · rename_i hk
            have a3 : Acc D ρt σ2 G3 H3 accd := ⟨rl2, go3.a1.n, fun o => go3.a1.o (ownS o), go3.a1.l⟩
            refine sb D _ accd ρt acc' ρ3 σ2 G3 H3 eb a3 fun G5 H5 gz => ?_
            have rz : Rel (wipeE ρ3 vs) (wipe σ vs) G5 H5 := by
              have := gz.a1.rel.wipe (σ := wipe σ vs) (vs := vs) out tr.len
              rw [show wipe (wipe σ vs) vs = wipe σ vs from wipe_again (fun _ _ => rfl) rfl] at this
              exact this
            have nDw : ¬ Own (wipeE ρ3 vs) (wipe σ vs) D := fun ⟨j, o⟩ => by
              obtain ⟨⟨sv, p1, p2⟩, p3⟩ := o
              by_cases c : j ∈ vs
              · rw [wipe_get, if_pos c] at p3
                cases z : σ[j]? with
                | none => rw [z] at p3; cases p3
                | some z' => rw [z] at p3; cases p3
              · rw [wipeE_get, if_neg c] at p1
                exact gz.a1.o ⟨j, ⟨sv, p1, p2⟩, by rw [out j c]; exact p3⟩
            have hl : ρt.length = (wipeE ρb vs).length := by rw [rl2.len, go.a1.rel.len, tr.len]
            have sk2 : SameK (wipeE (wipeE ρb vs) vs) (wipeE ρ3 vs) := sameK_wipe (ρa := ρb) gz.same outE hl
            have sk3 : SameK (wipeE ρb vs) (wipeE ρ3 vs) := by
              refine (show SameK (wipeE ρb vs) (wipeE (wipeE ρb vs) vs) from ?_).trans sk2
              apply List.ext_getElem?
              intro j
              rw [List.getElem?_map, List.getElem?_map, wipeE_get, wipeE_get]
              by_cases c : j ∈ vs
              · rw [if_pos c, if_pos c]; cases ρb[j]? <;> rfl
              · rw [if_neg c, if_neg c]
            have stp : Stp (fun a => Own (wipeE ρ vs) (wipe σ vs) a ∨ a = D) G1 H1 G5 H5 := go3.stp.trans gz.stp fun x ox => .inl (ox.imp (fun o => own_same go3.same (ownS o)) id)
            exact ⟨rfl, hlt, ρ3, G5, acc', ⟨a0, ⟨rz, gz.a1.n, nDw, gz.a1.l⟩, stp, go.same.trans sk3⟩, kg, hk⟩
          · cases kg
    · have e : i = ds.length := by omega
      subst e
      refine .inl ⟨w2 rfl, ?_⟩
      rw [List.drop_length] at kg
      obtain ⟨rfl, rfl⟩ := ret_some (show DL.ret accd (wipeE ρb vs) = some (accf, ρf) from kg)
      exact fin Gc H' ⟨ρb, rfl⟩ go
/-- the names of a clause are given back -/
theorem acc_back {D : Addr} {ρ ρb : En} {vs : List Nat} {σ : L2.St} {G1 H1 Gc H' : Hp} {acc accf : List Dt} (hno : noOwn ρ vs = true) (r1 : Rel ρ σ G1 H1) (go : AccGo D (wipeE ρ vs) (wipe σ vs) G1 H1 acc (wipeE ρb vs) Gc H' accf) :
    Rel (backE ρ (wipeE ρb vs) vs) σ Gc H' ∧ SameK ρ (backE ρ (wipeE ρb vs) vs) ∧ (∀ a, Own (backE ρ (wipeE ρb vs) vs) σ a → Own (wipeE ρb vs) (wipe σ vs) a) ∧ ∀ a, Own (wipeE ρ vs) (wipe σ vs) a → Own ρ σ a := by
  have lb : ρ.length = (wipeE ρb vs).length := by
    have := go.same.len
    rw [this, wipe_len]
  have gb := backE_get ρ (wipeE ρb vs) lb
  have nown : ∀ j, j ∈ vs → ∀ sv, ρ[j]? = some sv → kind sv ≤ 1 := fun j hj sv hsv => by
    have := List.all_eq_true.mp hno j hj
    simp only [hsv] at this
    exact of_decide_eq_true this
  have ownB : ∀ {j a}, OwnAt (backE ρ (wipeE ρb vs) vs) σ j a → OwnAt (wipeE ρb vs) (wipe σ vs) j a := fun {j a} o => by
    obtain ⟨⟨sv, p1, p2⟩, p3⟩ := o
    rw [gb j vs] at p1
    by_cases c : j ∈ vs
    · rw [if_pos c] at p1
      have := nown j c sv p1
      unfold isOwn at p2
      have := of_decide_eq_true p2
      omega
    · rw [if_neg c] at p1
      exact ⟨⟨sv, p1, p2⟩, by rw [wipe_get, if_neg c]; exact p3⟩
  refine ⟨⟨go.a1.rel.ex, fun j sv hj => ?_, fun i j a o1 o2 => go.a1.rel.sep i j a (ownB o1) (ownB o2), by rw [back_len, ← lb]; exact r1.len⟩, ?_, fun a ⟨j, o⟩ => ⟨j, ownB o⟩, fun a ⟨j, o⟩ => ⟨j, (ownAt_wipe o).2⟩⟩
  · rw [gb j vs] at hj
    by_cases c : j ∈ vs
    · rw [if_pos c] at hj
      have k1 := nown j c sv hj
      have k2 := r1.slot j sv hj
      cases sv with
      | no => trivial
      | imm d => obtain ⟨v, k3, k4⟩ := k2; exact ⟨v, k3, Rp.ex go.stp.exG _ k4⟩
      | lst p _ => cases p <;> simp [kind] at k1
      | dic p t _ => cases p <;> cases t <;> simp [kind] at k1
    · rw [if_neg c] at hj
      have := go.a1.rel.slot j sv hj
      rw [wipe_get, if_neg c] at this
      exact this
  · apply List.ext_getElem?
    intro j
    rw [List.getElem?_map, List.getElem?_map, gb j vs]
    by_cases c : j ∈ vs
    · rw [if_pos c]
    · rw [if_neg c]
      have := go.same.at j
      rw [this, wipeE_get, if_neg c]
theorem acc_wipe {D : Addr} {ρ : En} {vs : List Nat} {σ : L2.St} {G H : Hp} {acc : List Dt} (a : Acc D ρ σ G H acc) : Acc D (wipeE ρ vs) (wipe σ vs) G H acc :=
  ⟨a.rel.wipe (fun _ _ => rfl) rfl, a.n, fun ⟨j, o⟩ => a.o ⟨j, (ownAt_wipe o).2⟩, a.l⟩
/-- a clause within -/
theorem sim_clause {mi : M (List Dt × Gd)} {wi : TI} {vs is : List Nat} {mg : MG} {g : TG} {mb : MA} {tb : Addr → (Hp → Prop) → L2.St → Hp → Prop} (hsub : ∀ j ∈ is, j ∈ vs) (si : SimI mi wi) (sg : SimG is mg g) (sb : SimM mb tb) :
    SimM (mClause mi vs mg mb) (fun D Nx σ H => wi σ H fun J H4 => tTurns J g vs tb D Nx σ H4) := fun D Nx acc ρ acc' ρ' σ G H e a q => by
  obtain ⟨⟨ds, gs⟩, ρ1, h1, h2⟩ := bnd_some e
  simp only at h2
  split at h2
  · rename_i hno
    rw [Bool.and_eq_true] at hno
    obtain ⟨hno, hgn⟩ := hno
    split at h2
    · rename_i accf ρf h3
      cases h2
      refine si ρ ds gs ρ1 σ G H _ h1 a.rel fun J as G1 H1 g1 gr wk => ?_
      have a1 := a.go g1
      refine acc_turns hsub sg sb wk gr hgn (acc_wipe a1.a1) h3 fun G' H' ⟨ρb, hb⟩ go => ?_
      subst hb
      obtain ⟨b1, b2, b3, b4⟩ := acc_back hno g1.rel go
      exact q G' H' (a1.trans ⟨a1.a1, ⟨b1, go.a1.n, fun o => go.a1.o (b3 _ o), go.a1.l⟩, go.stp.mono fun x o => o.imp (b4 x) id, b2⟩)
    · cases h2
  · cases h2
theorem sim_when {mt : M Bool} {tt : TT} {mb : MA} {tb : Addr → (Hp → Prop) → L2.St → Hp → Prop} (st : SimT mt tt) (sb : SimM mb tb) : SimM (mWhen mt mb) (fun D Nx σ H => tt σ H fun b H3 => if b = true then tb D Nx σ H3 else Nx H3) := fun D Nx acc ρ acc' ρ' σ G H e a q => by
  obtain ⟨b, ρ1, h1, h2⟩ := bnd_some e
  refine st ρ b ρ1 σ G H _ h1 a.rel fun G1 H1 g1 => ?_
  have a1 := a.go g1
  cases b with
  | false =>
    obtain ⟨rfl, rfl⟩ := ret_some h2
    exact q G1 H1 a1
  | true => exact sb D Nx acc ρ1 acc' ρ' σ G1 H1 h2 a1.a1 fun G2 H2 g2 => q G2 H2 (a1.trans g2)
def tComp (wi : TI) (g : TG) (vs : List Nat) (tb : Addr → (Hp → Prop) → L2.St → Hp → Prop) : TE := fun σ H Q => wi σ H fun J H1 => ∀ D, H1 D = none → tTurns J g vs tb D (Q (.ref D)) σ (upd H1 D (.lst []))
theorem sim_lc {mi : M (List Dt × Gd)} {wi : TI} {vs is : List Nat} {mg : MG} {g : TG} {mb : MA} {tb : Addr → (Hp → Prop) → L2.St → Hp → Prop} (hsub : ∀ j ∈ is, j ∈ vs) (si : SimI mi wi) (sg : SimG is mg g) (sb : SimM mb tb) : SimN (mLc mi vs mg mb) (tComp wi g vs tb) := fun ρ sv ρ' σ G H Q e rl q => by
  obtain ⟨acc0, ρ0, h0, hr⟩ := bnd_some e
  obtain ⟨rfl, rfl⟩ := ret_some hr
  obtain ⟨⟨ds, gs⟩, ρ1, h1, h2⟩ := bnd_some h0
  simp only at h2
  split at h2
  · rename_i hno
    rw [Bool.and_eq_true] at hno
    obtain ⟨hno, hgn⟩ := hno
    split at h2
    · rename_i accf ρf h3
      cases h2
      refine si ρ ds gs ρ1 σ G H _ h1 rl fun J as G1 H1 g1 gr wk => fun D hD => ?_
      have hG1 : G1 D = none := g1.ex.free hD
      have gr2 := g1.grow (Grow.unknown g1.ex hD (o := .lst []))
      have a1 : Acc D ρ1 σ G1 (upd H1 D (.lst [])) [] := ⟨gr2.rel, hG1, fun o => g1.ownOld o (g1.back hD), [], upd_same, .nil⟩
      have wk2 : Walks J G1 as ds := wk
      refine acc_turns hsub sg sb wk2 gr hgn (acc_wipe a1) h3 fun G' H' ⟨ρb, hb⟩ go => ?_
      subst hb
      obtain ⟨b1, b2, b3, b4⟩ := acc_back hno gr2.rel go
      obtain ⟨ws, k1, k2⟩ := go.a1.l
      refine q D G' H' (g1.trans ⟨g1.rel, b1, ⟨go.stp.exG, fun x o hx nx => ?_, fun x h5 h6 => ?_, fun x hx => ?_⟩, b2⟩) (g1.back hD) ⟨go.a1.n, ws, k1, k2⟩
      · have ne : x ≠ D := ne_of_none hx hD
        exact go.stp.fr x o (by rw [upd_ne ne]; exact hx) fun z => z.elim (fun z => nx (b4 x z)) ne
      · exact go.stp.new x h5 (by
          by_cases c : x = D
          · rw [c, upd_same]; exact fun q => nomatch q
          · rw [upd_ne c]; exact h6)
      · exact go.stp.live x (by
          by_cases c : x = D
          · rw [c, upd_same]; exact fun q => nomatch q
          · rw [upd_ne c]; exact hx)
    · cases h2
  · cases h2
section
variable {X : Cx} {elt tg iter tg1 iter1 : Expr} {ifs ifs1 : List Expr} {scope : Scope} {own : List (Str × Nat)} {is is1 vs1 : List Nat} {pos : Pos} {wi wi1 : TI} {g g1 : TG} {tt tt1 : TT} {te : TE} {mi mi1 : M (List Dt × Gd)} {mg mg1 : MG} {mt mt1 : M Bool} {me : M Dt}
structure DTs (X : Cx) (ifs : List Expr) (t : TT) (m : M Bool) : Prop where
  pts : PTs X ifs t
  sim : SimT m t
def mYes : M Bool := ret true
theorem dts_nil : DTs X [] tYes mYes := ⟨pts_nil, fun ρ b ρ' σ G H Q e rl q => by
  obtain ⟨rfl, rfl⟩ := ret_some e
  exact q G H (Go.refl rl)⟩
theorem dts_one {c : Expr} {t : TT} {m : M Bool} (h : DT X c t m) : DTs X [c] t m := ⟨pts_one h.pt, h.sim⟩
abbrev Blk (X : Cx) (scope : Scope) (P : Cx → Prop) : Prop := ∀ (s : Shared) (H : Hp) (C : Addr) (cl : List (Str × Addr)) (fp : List Addr), P (X.blk s H scope (compEnvC scope cl C X.env) fp)
theorem blk_some (X : Cx) (scope : Scope) (P : Cx → Prop) (h : Blk X scope P) : ∃ Y : Cx, P Y ∧ Y.K = X.K := ⟨_, h X.s_0 X.H_0 0 [] [], rfl⟩
theorem dn_lc (hc : X.calm = true) (hN : X.N.Nodup) (hi : DI X tg iter wi mi) (ok : blkC X.N X.env.scope scope own = true) (hg : Blk X scope fun Y => DG Y tg is g mg) (ht : Blk X scope fun Y => DTs Y ifs tt mt) (he : Blk X scope fun Y => DE Y elt te me)
    (hsub : ∀ j ∈ is, j ∈ own.map (·.2) := by decide) (hs : ∀ x, foldedSetIterable iter X.env x = pure x := by intro _; rfl) :
    DN X (.ListComp elt [⟨tg, iter, ifs, 0⟩] scope pos) (tLc wi g tt te (own.map (·.2))) (mLc mi (own.map (·.2)) mg (mLeaf mt me)) :=
  ⟨pe_lc hc hN hi.pi (blkOk_by ok) (fun s H C cl fp => (hg s H C cl fp).pg) (fun s H C cl fp => (ht s H C cl fp).pts) (fun s H C cl fp => (he s H C cl fp).pe) hs,
    sim_lc hsub hi.sim (hg X.s_0 X.H_0 0 [] []).sim (sim_leaf (ht X.s_0 X.H_0 0 [] []).sim (he X.s_0 X.H_0 0 [] []).sim)⟩
theorem dn_lc2 (hc : X.calm = true) (hN : X.N.Nodup) (hi : DI X tg iter wi mi) (ok : blkC X.N X.env.scope scope own = true) (hv : ∀ i ∈ vs1, i ∈ own.map (·.2)) (hg : Blk X scope fun Y => DG Y tg is g mg) (ht : Blk X scope fun Y => DTs Y ifs tt mt)
    (hi1 : Blk X scope fun Y => DI Y tg1 iter1 wi1 mi1) (hg1 : Blk X scope fun Y => DG Y tg1 is1 g1 mg1) (ht1 : Blk X scope fun Y => DTs Y ifs1 tt1 mt1) (he : Blk X scope fun Y => DE Y elt te me)
    (hsub : ∀ j ∈ is, j ∈ own.map (·.2) := by decide) (hsub1 : ∀ j ∈ is1, j ∈ vs1 := by decide) (hs : ∀ x, foldedSetIterable iter X.env x = pure x := by intro _; rfl) (hs1 : ∀ env x, foldedSetIterable iter1 env x = pure x := by intro _ _; rfl) :
    DN X (.ListComp elt [⟨tg, iter, ifs, 0⟩, ⟨tg1, iter1, ifs1, 0⟩] scope pos) (tLc2 wi g tt wi1 g1 tt1 te (own.map (·.2)) vs1) (mLc mi (own.map (·.2)) mg (mWhen mt (mClause mi1 vs1 mg1 (mLeaf mt1 me)))) :=
  ⟨pe_lc2 hc hN hi.pi (blkOk_by ok) hv (fun s H C cl fp => (hg s H C cl fp).pg) (fun s H C cl fp => (ht s H C cl fp).pts) (fun s H C cl fp => (hi1 s H C cl fp).pi) (fun s H C cl fp => (hg1 s H C cl fp).pg) (fun s H C cl fp => (ht1 s H C cl fp).pts) (fun s H C cl fp => (he s H C cl fp).pe) hs hs1,
    sim_lc hsub hi.sim (hg X.s_0 X.H_0 0 [] []).sim (sim_when (ht X.s_0 X.H_0 0 [] []).sim (sim_clause hsub1 (hi1 X.s_0 X.H_0 0 [] []).sim (hg1 X.s_0 X.H_0 0 [] []).sim (sim_leaf (ht1 X.s_0 X.H_0 0 [] []).sim (he X.s_0 X.H_0 0 [] []).sim)))⟩
end
end DL
end
section
set_option maxRecDepth 100000
set_option maxHeartbeats 4000000
/-! DLG: a def's promise where no repr is under way (A.guards = some []): what repr of a list asks. -/
namespace DL
open PySem PySem.Spec PyProof.Rows L2

structure Rm (k : Nat) (A : Around) : Prop where
  room : Room k A
  gd : A.guards = some []
theorem Rm.mono {j k : Nat} {A : Around} (r : Rm k A) (h : j ≤ k) : Rm j A := ⟨r.room.mono h, r.gd⟩
theorem Rm.deeper {k : Nat} {A : Around} (r : Rm (k + 1) A) (env : Env) : Rm k (A.deeper env) := ⟨r.room.deeper env, r.gd⟩

structure FnG (P : Program) (w : World) (K : PySem.W.Frag) (mg : Str → Option Value) (base : Heap) (CX : CXT) (k : Nat) (f : Addr) (fd : FuncData) (ps : List Str) (sp : Sp) : Prop where
  len : ∀ vs H Q E, sp vs H Q E → vs.length = ps.length
  run : ∀ (A : Around) (outer : List Env) (s : Shared) (H : Hp) (args : Args) (us : List Value) (vs : List V) (Q : VK) (E : XK), Rm k A → Env0 P w K mg base A outer s H → BindsTo s fd args (ps.zip us) → Vals vs us → sp vs H Q E →
    codeAny (model P w) A (.call (.ref f) args) (CR CX outer P w H s Q E) s
section
variable {P : Program} {w : World} {K : PySem.W.Frag} {mg : Str → Option Value} {base : Heap} {CX : CXT} {k : Nat} {f : Addr} {fd : FuncData} {ps : List Str} {sp : Sp}
theorem FnG.of (F : FnOk P w K mg base CX k f fd ps sp) : FnG P w K mg base CX k f fd ps sp := ⟨F.len, fun A outer s H args us vs Q E hr => F.run A outer s H args us vs Q E hr.room⟩
theorem FnG.mono {j : Nat} (F : FnG P w K mg base CX j f fd ps sp) (h : j ≤ k) : FnG P w K mg base CX k f fd ps sp := ⟨F.len, fun A outer s H args us vs Q E hr => F.run A outer s H args us vs Q E (hr.mono h)⟩
/-- by its body -/
theorem fng_of {x qual : Str} {st : Stmt} {N : List Str} (F : Fun K x qual st f fd) (S : FnScope N ps (defScope st)) (len : ∀ vs H Q E, sp vs H Q E → vs.length = ps.length)
    (hbody : ∀ (cdv : Value) (A : Around) (outer : List Env) (s : Shared) (H : Hp) (vs : List V) (Q : VK) (E : XK), Rm k (A.deeper (envOfC qual (defScope st) s.heap.objs.size f cdv)) → sp vs H Q E →
      ∃ t, PSs (cxOf CX P w K mg base N qual (defScope st) f cdv A outer s H E) (defBody st) t ∧ t { nx := fun _ H' => Q .non H', rt := Q } (L2.start N vs) H) : FnG P w K mg base CX (k + 1) f fd ps sp := by
  obtain ⟨oc, od, kV, doc, pm, an, cdv, ct, osl, rfl, lk, hcd⟩ := F.ex
  refine ⟨len, fun A outer s H args us vs Q E hr e0 hb r hsp => ?_⟩
  have lv := len _ _ _ _ hsp
  have inK : K.In s.heap := e0.mod.kin.keeps fun b o e => (e0.bs b o e).1
  have nolim : s.heap.NoLimit := e0.mod.nolimit.keeps fun b o e => (e0.bs b o e).1
  have kinds : ∀ y ∈ ps.zip us, (defScope st).names.lookup y.1 = some .local ∨ ((defScope st).names.lookup y.1 = some .cell ∧ ((cellsFrom (s.heap.objs.size + 1) (defScope st).names []).lookup y.1).isSome = true) := fun y hy => by
    rcases S.par y.1 (List.of_mem_zip (b := y.2) hy).1 with q | q
    · exact .inl q
    · exact .inr ⟨q, PySem.W.cellsFrom_some _ _ _ (.inl q)⟩
  refine codeAny_call_function hr.room.depth (inK _ _ lk) rfl S.co S.gen rfl (PySem.W.codeRec_of inK hcd) (hb _ _ _ _ ?_)
  refine wpAny_newFunctionEnv_cells S.kind kinds fun env he s1 x => ?_
  subst he
  refine ⟨nolim.keeps x.toInCall.keep, codeAny_func ?_⟩
  obtain ⟨t, ht, hq⟩ := hbody cdv A outer s H vs Q E (hr.deeper _) hsp
  refine wpAny_mono (ht.run [] s1 (L2.start N vs) H _ (inv_start S hr.room.hd e0 lv r x) hq) (fun fl s' hs => ?_) fun e s' hs => hs
  cases fl with
  | ret u =>
    obtain ⟨v, σ', H', J, rv, q⟩ := hs
    exact ⟨v, H', J.os, J.bare, J.base, J.hok, rv, q⟩
  | next =>
    obtain ⟨σ', H', J, q⟩ := hs
    exact ⟨V.non, H', J.os, J.bare, J.base, J.hok, rfl, q⟩
  | brk =>
    obtain ⟨_, _, _, q⟩ := hs
    exact q.elim
  | cont =>
    obtain ⟨_, _, _, q⟩ := hs
    exact q.elim
end
section
variable {X : Cx} {CX : CXT} {k : Nat} {f : Addr} {fd : FuncData} {ps : List Str} {sp : Sp} {E : XK} {x : Str} {p pos : Pos} {e : Expr} {es : List Expr} {t : TA}
theorem run_fng {pins : List (Addr × Obj)} {σ : L2.St} {H : Hp} {s : Shared} {Q : VK} {us : List Value} {vs : List V} (F : FnG X.prog X.w X.K X.mg X.base CX k f fd ps sp) (hr : Rm k X.A) (hb : Binds X.K fd ps []) (hx : Passes CX X E)
    (I : Inv X pins σ H s) (r : Vals vs us) (h : sp vs H Q E) : wpAny (model X.prog X.w) X.A (call (.ref f) us) (EP X pins σ Q) X.xe s := by
  have hl : (us ++ []).length = ps.length := by rw [List.append_nil, ← r.length]; exact F.len _ _ _ _ h
  have bd := hb s us I.kIn hl
  rw [List.append_nil] at bd
  refine wpAny_call (codeAny_mono (F.run X.A X.stack s H ⟨us, []⟩ us vs Q E hr I.env0 bd r h) fun r s' hq => ?_)
  cases r with
  | error e => exact hx pins σ H s e s' I hq
  | ok fl =>
    cases fl with
    | ret u => exact I.after hq
    | next => exact hq.elim
    | brk => exact hq.elim
    | cont => exact hq.elim
theorem pe_callG (F : FnG X.prog X.w X.K X.mg X.base CX k f fd ps sp) (hr : Rm k X.A) (hg : Gl X x) (hm : X.mg x = some (.ref f)) (hk : PySem.W.keepIn X.K (.ref f) = true) (hb : Binds X.K fd ps []) (hx : Passes CX X E)
    (ha : PA X (e :: es) t) (hdb : (x == ("__debug__" : Str)) = false := by decide) (he : starEach (e :: es) X.env = (false, eval e X.env) :: starEach es X.env := by rfl) (hpl : (backTo pos (starEach es X.env)).any (·.1) = false := by rfl) :
    PE X (.Call (.Name x p) (e :: es) [] pos) (tCall sp [] E t) := ⟨fun pins s σ H Q I h => by
  refine wpAny_Call_Name_kw (ld_glob I hg hm ?_ hdb)
  refine PySem.W.callWith_K (h₀ := X.base) I.ok.mod.kin hk (thn (ha.run pos pins s σ H _ I h) fun us s1 ⟨vs, H1, I1, r, q⟩ => ⟨I1.kIn, ?_⟩) he hpl
  have q : sp (vs ++ []) H1 Q E := q
  rw [List.append_nil] at q
  exact run_fng F hr hb hx I1 r q⟩
theorem pe_callG0 (F : FnG X.prog X.w X.K X.mg X.base CX k f fd ps sp) (hr : Rm k X.A) (hg : Gl X x) (hm : X.mg x = some (.ref f)) (hk : PySem.W.keepIn X.K (.ref f) = true) (hb : Binds X.K fd ps []) (hx : Passes CX X E)
    (hdb : (x == ("__debug__" : Str)) = false := by decide) : PE X (.Call (.Name x p) [] [] pos) (tCall sp [] E tNil) := ⟨fun pins s σ H Q I h => by
  refine wpAny_Call_Name_kw (ld_glob I hg hm ?_ hdb)
  exact PySem.W.callWith_K0 I.kIn hk (run_fng (us := []) (vs := []) F hr hb hx I .nil h)⟩
end
/-! ### the law's call -/
/-- what is tracked at the law's call: nothing but the script, frozen -/
def scrH (a : Addr) (vs : List Value) (ns : List Int) (known : Bool) : Hp := fun b => if b = a ∧ known = false then some (.frz { cls := .type "list", data := .seq vs.toArray } (.lst (ns.map V.int))) else none
section
variable {P : Program} {w : World} {K : PySem.W.Frag} {mg mb : Str → Option Value} {CX : CXT} {k : Nat} {fa a : Addr} {fd : FuncData} {x : Str} {sp : Sp} {s₁ : Shared} {vs : List Value} {ns : List Int}
theorem scrH_some {a b : Addr} {vs : List Value} {ns : List Int} {known : Bool} {u : HO} (h : scrH a vs ns known b = some u) : b = a ∧ known = false ∧ u = .frz { cls := .type "list", data := .seq vs.toArray } (.lst (ns.map V.int)) := by
  unfold scrH at h
  split at h
  · rename_i c
    cases h
    exact ⟨c.1, c.2, rfl⟩
  · cases h
theorem law_callG (KX : K.In s₁.heap) (hns : s₁.heap.Ns mainGlobals mg) (hb : s₁.heap.Ns builtinsNs mb) (hbb : ∀ x : Str, x ≠ "__name__" → mb x = bootBuiltins x) (hlim : s₁.heap.NoLimit) (hg : s₁.gens = #[])
    (ha : s₁.heap.get? a = some { cls := .type "list", data := .seq vs.toArray }) (hi : IntsAre vs ns) (hl : ns.length ≤ sizeLine) (hr : Rm k callerA)
    (F : ∀ base : Heap, K.In base → base.Ns mainGlobals mg → FnG P w K mg base CX k fa fd [x] sp) (hbind : ∀ (s : Shared) (u : Value), BindsTo s fd ⟨[u], []⟩ [(x, u)])
    (hsp : ∀ H : Hp, Only H → SqL K H a (ns.map V.int) → sp [.ref a] H (fun v _ => v = .bl true) fun _ _ _ => False)
    (hCX : ∀ H e s', CX [] H s₁ (fun _ _ _ => False) e s' → False) :
    codeAny (model P w) callerA (.call (.ref fa) ⟨[.ref a], []⟩) (fun r s' => r = .ok (.ret (.bool true)) ∧ OldK s₁.heap s'.heap ∧ s'.os = s₁.os ∧ AllBare s'.gens) s₁ := by
  have rv := vals_ints hi
  have lenV := hi.length
  -- is the script an object of the written part?
  obtain ⟨known, hk⟩ : ∃ known : Bool, (known = true ↔ K.lookup a ≠ none) := ⟨(K.lookup a).isSome, by cases K.lookup a <;> simp⟩
  have none_of : ∀ {b : Addr} {o : Obj}, s₁.heap.get? b = some o → o ≠ { cls := .type "list", data := .seq vs.toArray } → scrH a vs ns known b = none := fun {b o} e n => by
    cases q : scrH a vs ns known b with
    | none => rfl
    | some u => rw [(scrH_some q).1, ha] at e; cases e; exact absurd rfl n
  have ns_keep : ∀ {b : Addr} {m : Str → Option Value}, s₁.heap.Ns b m → (hidT s₁.heap (scrH a vs ns known)).Ns b m := fun {b m} ⟨o, es, ep, e, d, r⟩ => ⟨o, es, ep, hidT_get e (none_of e fun z => by rw [z] at d; exact nomatch d), d, r⟩
  have inK : K.In (hidT s₁.heap (scrH a vs ns known)) := fun b o e => hidT_get (KX b o e) (by
    cases q : scrH a vs ns known b with
    | none => rfl
    | some u =>
      obtain ⟨rfl, h2, _⟩ := scrH_some q
      have : known = true := hk.mpr (by rw [e]; exact fun z => nomatch z)
      rw [h2] at this; cases this)
  have hok : HOk P w (scrH a vs ns known) s₁.heap := fun b u z => by
    obtain ⟨rfl, _, rfl⟩ := scrH_some z
    exact ⟨ha, by rw [List.length_map]; exact hl, vs, _, rv, ha⟩
  have only : Only (scrH a vs ns known) := fun b => by
    cases q : scrH a vs ns known b with
    | none => exact .inl rfl
    | some u => exact .inr ⟨_, _, by rw [(scrH_some q).2.2]⟩
  have sq : SqL K (scrH a vs ns known) a (ns.map V.int) := by
    cases hkn : known with
    | true =>
      obtain ⟨o, e⟩ := Option.ne_none_iff_exists'.mp (hk.mp hkn)
      have e' := KX a o e
      rw [ha] at e'
      cases e'
      exact .inr ⟨_, vs.toArray, _, e, rfl, rfl, rfl, by rw [List.size_toArray, lenV]; exact hl, by simpa using rv⟩
    | false => exact .inl (.inr ⟨{ cls := .type "list", data := .seq vs.toArray }, if_pos ⟨rfl, rfl⟩⟩)
  have modu : Mod K mg (hidT s₁.heap (scrH a vs ns known)) := ⟨inK, ns_keep hns, ⟨mb, ns_keep hb, hbb⟩, let ⟨mc, h1, h2⟩ := hlim; ⟨mc, ns_keep h1, h2⟩⟩
  have e0 : Env0 P w K mg (hidT s₁.heap (scrH a vs ns known)) callerA [] s₁ (scrH a vs ns known) := ⟨rfl, modu, fun b o e => of_hidT e, Nat.le_of_eq (hidT_size _ _), trivial, fun b hb => absurd (show b ∈ ([] : List Addr) from hb) (by simp), hok, .of_eq hg⟩
  refine codeAny_mono ((F _ inK (ns_keep hns)).run callerA [] s₁ _ ⟨[.ref a], []⟩ [.ref a] [.ref a] _ _ hr e0 (hbind s₁ (.ref a)) (.cons rfl .nil) (hsp _ only sq)) fun r s' h => ?_
  cases r with
  | error e => exact (hCX _ e s' h).elim
  | ok fl =>
    cases fl with
    | next => exact h.elim
    | brk => exact h.elim
    | cont => exact h.elim
    | ret u =>
      obtain ⟨v, H', os, bare, un, hok', r', q⟩ := h
      have q' : v = .bl true := q
      subst q'
      obtain rfl : u = Value.bool true := r'
      refine ⟨rfl, OldK.of_keep fun b o e => ?_, os, bare⟩
      cases q : scrH a vs ns known b with
      | none => exact un.keep b o e q (by intro z; exact absurd (show b ∈ ([] : List Addr) from z) (by simp)) (by simp)
      | some u =>
        obtain ⟨_, _, rfl⟩ := scrH_some q
        obtain ⟨e1, _⟩ := hok b _ q
        obtain ⟨e2, _⟩ := hok' b _ (un.frzs b _ _ q)
        rw [e] at e1
        cases e1
        exact e2
end
theorem rm_caller {k : Nat} (h : Room k callerA) : Rm k callerA := ⟨h, rfl⟩
/-- the goal that k_head leaves -/
theorem walk_ofG {l : PySem.W.OpenLaw} {n k : Nat} {q : Program} {loose : List Str} {XP : (Str → Option Value) → Heap → Prop} {YP : World → Heap → Prop} {d : DefRec} {K : Params → PySem.W.Frag} {CX : World → CXT} {sp : World → Sp} {x : Str}
    (hn : l.most = some n) (hn2 : n ≤ sizeLine) (hdf : d.params.defaults = []) (hr : Room k callerA)
    (hY : ∀ (w : World) (h : Heap), YP w h → (K w.params).In h)
    (F : ∀ (w : World) (mg : Str → Option Value) (fa : Addr) (h : Heap), (K w.params).In h → h.Ns mainGlobals mg → mg d.name = some (.ref fa) →
      ∃ fd : FuncData, (∀ (s : Shared) (u : Value), BindsTo s fd ⟨[u], []⟩ [(x, u)]) ∧
        ∀ base : Heap, (K w.params).In base → base.Ns mainGlobals mg → FnG l.prog w (K w.params) mg base (CX w) k fa fd [x] (sp w))
    (hsp : ∀ (w : World) (H : Hp) (a : Addr) (ns : List Int), ns.length ≤ n → (∀ z ∈ ns, Builtin.Int.intBits z ≤ 1048576) → Only H → SqL (K w.params) H a (ns.map V.int) → sp w [.ref a] H (fun v _ => v = .bl true) fun _ _ _ => False)
    (hCX : ∀ (w : World) (H : Hp) (s : Shared) (e : Value) (s' : Shared), CX w [] H s (fun _ _ _ => False) e s' → False) :
    PySem.W.WalkO q loose XP YP l.row.toRowW d [] (fun f vs => PySem.call f vs) :=
  Att.attach_callB hn hdf fun w s₀ s₁ mg mb fa o pm cd doc a vs ns G Y ho hd hcd hmg hobj hints hlen hbits hg => by
    obtain ⟨fd, hb, hF⟩ := F w mg fa _ (hY w _ Y) G.T.g hmg
    exact law_callG (hY w _ Y) G.T.g G.T.b G.T.builtins G.T.nolimit hg hobj hints (Nat.le_trans hlen hn2) (rm_caller hr) hF hb (fun H hO hS => hsp w H a ns hlen hbits hO hS) fun H e s' => hCX w H s₁ e s'
end DL
end
section
set_option maxRecDepth 100000
set_option maxHeartbeats 4000000
/-! DL8: calls of defs, statements, a def's promise. -/
namespace DL
open PySem L2

/-! ### what a def gives -/
inductive Ret where
  | val (d : Dt)
  | new (sv : SV)
def RetR (H0 G' H' : Hp) (v : V) : Ret → Prop
  | .val d => Rp G' v d
  | .new sv => ∃ a, v = .ref a ∧ H0 a = none ∧ ObjR G' H' a sv
abbrev Fnm := List SV → Option (Ret × List SV)
/-- THE PROMISE: the mirror's value -/
def spD (n : Nat) (m : Fnm) : Sp := fun vs H Q _ => ∃ svs G r out, vs.length = n ∧ m svs = some (r, out) ∧ Rel svs (vs.map some) G H ∧ (∀ sv ∈ svs, isOwn sv = true → isPin sv = true) ∧
  ∀ v G' H', Go svs (vs.map some) G H out G' H' → RetR H G' H' v r → Q v H'

/-! ### calls -/
def pinned : SV → Option SV
  | .imm d => some (.imm d)
  | .lst _ ds => some (.lst true ds)
  | .dic _ t k => some (.dic true t k)
  | .no => none
def argSV (ρ : En) : BR → Option SV
  | .val d => some (.imm d)
  | .own i => (ρ[i]?).bind pinned
def argSVs (ρ : En) : List BR → Option (List SV)
  | [] => some []
  | b :: bs => match argSV ρ b, argSVs ρ bs with
    | some s, some ss => some (s :: ss)
    | _, _ => none
def ownIx : List BR → List Nat
  | [] => []
  | .val _ :: r => ownIx r
  | .own i :: r => i :: ownIx r
/-- the flag of the one, the content of the other -/
def reflag : SV → SV → SV
  | .lst p _, .lst _ ds => .lst p ds
  | .dic p _ _, .dic _ t k => .dic p t k
  | _, s => s
def putBack (ρ : En) : List BR → List SV → En
  | .own i :: bs, s :: ss => putBack (ρ.set i (reflag ((ρ[i]?).getD .no) s)) bs ss
  | .val _ :: bs, _ :: ss => putBack ρ bs ss
  | _, _ => ρ
open Classical in
noncomputable def mCall (m : Fnm) (ma : M (List BR)) : M Ret := bnd ma fun bs => fun ρ => if (ownIx bs).Nodup then match argSVs ρ bs with
  | some svs => match m svs with
    | some (r, out) => some (r, putBack ρ bs out)
    | none => none
  | none => none else none
def SimR (m : M Ret) (t : TE) : Prop := ∀ ρ r ρ' σ G H (Q : VK), m ρ = some (r, ρ') → Rel ρ σ G H → (∀ v G' H', Go ρ σ G H ρ' G' H' → RetR H G' H' v r → Q v H') → t σ H Q
theorem kind_pinned {s s' : SV} (h : pinned s = some s') : isOwn s' = isOwn s ∧ (isOwn s' = true → isPin s' = true) := by
  cases s with
  | no => cases h
  | imm d => cases h; exact ⟨rfl, fun q => nomatch q⟩
  | lst p ds => cases h; exact ⟨by cases p <;> rfl, fun _ => rfl⟩
  | dic p t ds => cases h; exact ⟨by cases p <;> cases t <;> rfl, fun _ => by cases t <;> rfl⟩
theorem ObjR.pinned {G H : Hp} {a : Addr} {s s' : SV} (h : ObjR G H a s) (e : DL.pinned s = some s') : ObjR G H a s' := by
  cases s with
  | no => cases e
  | imm d => exact h.elim
  | lst p ds => cases e; exact h
  | dic p t ds => cases e; exact h
theorem ObjR.reflag {G H : Hp} {a : Addr} {s s0 : SV} (h : ObjR G H a s) (k : DL.isOwn s0 = true) (kd : ∀ s1, DL.pinned s0 = some s1 → kind s1 = kind s) : ObjR G H a (DL.reflag s0 s) ∧ kind (DL.reflag s0 s) = kind s0 := by
  cases s0 with
  | no => cases k
  | imm d => cases k
  | lst p ds =>
    have := kd _ rfl
    cases s with
    | lst q es => exact ⟨h, by cases p <;> rfl⟩
    | no => cases this
    | imm _ => cases this
    | dic q t _ => cases q <;> cases t <;> cases this
  | dic p t ds =>
    have := kd _ rfl
    cases s with
    | dic q t' es => exact ⟨h, by cases q <;> cases t <;> cases t' <;> first | (cases p <;> rfl) | (cases this; done)⟩
    | no => cases t <;> cases this
    | imm _ => cases t <;> cases this
    | lst q _ => cases q <;> cases t <;> cases this
theorem args_at {ρ : En} : ∀ {bs : List BR} {svs : List SV}, argSVs ρ bs = some svs → bs.length = svs.length ∧ ∀ (p : Nat) b, bs[p]? = some b → ∃ s, svs[p]? = some s ∧ argSV ρ b = some s
  | [], _, h => by cases h; exact ⟨rfl, fun p b hb => by simp at hb⟩
  | b :: bs, svs, h => by
    simp only [argSVs] at h
    split at h
    · rename_i s ss e1 e2
      cases h
      obtain ⟨k1, k2⟩ := args_at e2
      refine ⟨by simp [k1], fun p b' hb => ?_⟩
      cases p with
      | zero => simp at hb; subst hb; exact ⟨s, rfl, e1⟩
      | succ p => simp at hb; simpa using k2 p b' hb
    · cases h
theorem brs_at {ρ : En} {σ : L2.St} {G : Hp} : ∀ {vs : List V} {bs : List BR}, BrAll ρ σ G vs bs → vs.length = bs.length ∧ ∀ (p : Nat) b, bs[p]? = some b → ∃ v, vs[p]? = some v ∧ BrR ρ σ G v b
  | _, _, .nil => ⟨rfl, fun p b hb => by simp at hb⟩
  | _, _, .cons (v := v) h t => by
    obtain ⟨k1, k2⟩ := brs_at t
    refine ⟨by simp [k1], fun p b' hb => ?_⟩
    cases p with
    | zero => simp at hb; subst hb; exact ⟨v, rfl, h⟩
    | succ p => simp at hb; simpa using k2 p b' hb
theorem mem_ownIx : ∀ {bs : List BR} {p i : Nat}, bs[p]? = some (.own i) → i ∈ ownIx bs
  | .val _ :: r, 0, i, h => by simp at h
  | .own j :: r, 0, i, h => by simp at h; subst h; simp [ownIx]
  | .val _ :: r, p + 1, i, h => by simp at h; simpa [ownIx] using mem_ownIx h
  | .own j :: r, p + 1, i, h => by simp at h; simp [ownIx]; exact .inr (mem_ownIx h)
  | [], _, _, h => by simp at h
theorem ownIx_inj : ∀ {bs : List BR} {p q i : Nat}, (ownIx bs).Nodup → bs[p]? = some (.own i) → bs[q]? = some (.own i) → p = q
  | [], _, _, _, _, h, _ => by simp at h
  | .val _ :: r, 0, _, _, _, h, _ => by simp at h
  | .val _ :: r, _ + 1, 0, _, _, _, h => by simp at h
  | .val _ :: r, p + 1, q + 1, i, n, h, h' => by
    simp at h h'
    rw [ownIx_inj (by simpa [ownIx] using n) h h']
  | .own j :: r, 0, 0, _, _, _, _ => rfl
  | .own j :: r, 0, q + 1, i, n, h, h' => by
    simp at h h'
    subst h
    simp only [ownIx, List.nodup_cons] at n
    exact absurd (mem_ownIx h') n.1
  | .own j :: r, p + 1, 0, i, n, h, h' => by
    simp at h h'
    subst h'
    simp only [ownIx, List.nodup_cons] at n
    exact absurd (mem_ownIx h) n.1
  | .own j :: r, p + 1, q + 1, i, n, h, h' => by
    simp at h h'
    simp only [ownIx, List.nodup_cons] at n
    rw [ownIx_inj n.2 h h']
theorem of_ownIx : ∀ {bs : List BR} {i : Nat}, i ∈ ownIx bs → ∃ p : Nat, bs[p]? = some (.own i)
  | [], _, h => by simp [ownIx] at h
  | .val _ :: r, i, h => by
    obtain ⟨p, hp⟩ := of_ownIx (bs := r) (by simpa [ownIx] using h)
    exact ⟨p + 1, by simpa using hp⟩
  | .own j :: r, i, h => by
    simp only [ownIx, List.mem_cons] at h
    rcases h with rfl | h
    · exact ⟨0, rfl⟩
    · obtain ⟨p, hp⟩ := of_ownIx h
      exact ⟨p + 1, by simpa using hp⟩
theorem putBack_len : ∀ (bs : List BR) (ss : List SV) (ρ : En), (putBack ρ bs ss).length = ρ.length
  | [], _, _ => by simp [putBack]
  | .own i :: bs, [], _ => by simp [putBack]
  | .val _ :: bs, [], _ => by simp [putBack]
  | .own i :: bs, s :: ss, ρ => by simp [putBack, putBack_len bs ss]
  | .val _ :: bs, s :: ss, ρ => by simp [putBack, putBack_len bs ss]
theorem putBack_not : ∀ (bs : List BR) (ss : List SV) (ρ : En) (j : Nat), j ∉ ownIx bs → (putBack ρ bs ss)[j]? = ρ[j]?
  | [], _, _, _, _ => by simp [putBack]
  | .own i :: bs, [], _, _, _ => by simp [putBack]
  | .val _ :: bs, [], _, _, _ => by simp [putBack]
  | .own i :: bs, s :: ss, ρ, j, h => by
    simp only [ownIx, List.mem_cons, not_or] at h
    simp only [putBack]
    rw [putBack_not bs ss _ j h.2, List.getElem?_set_ne (Ne.symm h.1)]
  | .val _ :: bs, s :: ss, ρ, j, h => by
    simp only [putBack]
    exact putBack_not bs ss ρ j (by simpa [ownIx] using h)
theorem putBack_at : ∀ (bs : List BR) (ss : List SV) (ρ : En) (p j : Nat) (s s0 : SV), (ownIx bs).Nodup → bs[p]? = some (.own j) → ss[p]? = some s → ρ[j]? = some s0 → (putBack ρ bs ss)[j]? = some (reflag s0 s)
  | [], _, _, _, _, _, _, _, h, _, _ => by simp at h
  | _ :: _, [], _, _, _, _, _, _, _, h, _ => by simp at h
  | .own i :: bs, t :: ss, ρ, 0, j, s, s0, n, h, h', h0 => by
    simp at h h'
    subst h h'
    simp only [ownIx, List.nodup_cons] at n
    simp only [putBack]
    rw [putBack_not bs ss _ i n.1, List.getElem?_set_self (List.getElem?_eq_some_iff.mp h0).1, h0]
    rfl
  | .val _ :: bs, t :: ss, ρ, 0, j, s, s0, n, h, h', h0 => by simp at h
  | .own i :: bs, t :: ss, ρ, p + 1, j, s, s0, n, h, h', h0 => by
    simp at h h'
    simp only [ownIx, List.nodup_cons] at n
    simp only [putBack]
    refine putBack_at bs ss _ p j s s0 n.2 h h' ?_
    rw [List.getElem?_set_ne (fun e => n.1 (by rw [e]; exact mem_ownIx h))]
    exact h0
  | .val _ :: bs, t :: ss, ρ, p + 1, j, s, s0, n, h, h', h0 => by
    simp at h h'
    simp only [putBack]
    exact putBack_at bs ss ρ p j s s0 (by simpa [ownIx] using n) h h' h0
theorem sim_call {n : Nat} {m : Fnm} {ma : M (List BR)} {ta : TA} (sa : SimA ma ta) (hl : ∀ ρ bs ρ', ma ρ = some (bs, ρ') → bs.length = n) : SimR (mCall m ma) (tCall (spD n m) [] E0 ta) := fun ρ r ρ' σ G H Q e rl q => by
  obtain ⟨bs, ρ1, h1, h2⟩ := bnd_some e
  split at h2
  · rename_i nd
    split at h2
    · rename_i svs hs
      split at h2
      · rename_i r0 out hm
        cases h2
        refine sa ρ bs ρ1 σ G H _ h1 rl fun vs G1 H1 g1 b1 => ?_
        obtain ⟨l1, at1⟩ := brs_at b1
        obtain ⟨l2, at2⟩ := args_at hs
        show spD n m (vs ++ []) H1 Q E0
        rw [List.append_nil]
        -- an own argument: its slot
        have arg : ∀ (p : Nat) (sv : SV), svs[p]? = some sv → ∃ b v, bs[p]? = some b ∧ vs[p]? = some v ∧ BrR ρ1 σ G1 v b ∧ argSV ρ1 b = some sv := fun p sv h => by
          have hp : p < bs.length := by rw [l2]; exact (List.getElem?_eq_some_iff.mp h).1
          obtain ⟨s, k1, k2⟩ := at2 p bs[p] (List.getElem?_eq_getElem hp)
          rw [h] at k1
          cases k1
          obtain ⟨v, k3, k4⟩ := at1 p bs[p] (List.getElem?_eq_getElem hp)
          exact ⟨bs[p], v, List.getElem?_eq_getElem hp, k3, k4, k2⟩
        have own_arg : ∀ (p : Nat) (a : Addr), OwnAt svs (vs.map some) p a → ∃ i sv s0, bs[p]? = some (.own i) ∧ svs[p]? = some sv ∧ ρ1[i]? = some s0 ∧ DL.pinned s0 = some sv ∧ OwnAt ρ1 σ i a := fun p a ⟨⟨sv, k1, k2⟩, k3⟩ => by
          obtain ⟨b, v, k4, k5, k6, k7⟩ := arg p sv k1
          cases b with
          | val d => cases k7; cases k2
          | own i =>
            have k7 : (ρ1[i]?).bind DL.pinned = some sv := k7
            cases e0 : ρ1[i]? with
            | none => rw [e0] at k7; cases k7
            | some s0 =>
              rw [e0] at k7
              have k7 : DL.pinned s0 = some sv := k7
              refine ⟨i, sv, s0, k4, k1, e0, k7, ⟨s0, e0, by rw [← (kind_pinned k7).1]; exact k2⟩, ?_⟩
              have : vs[p]? = some (.ref a) := by
                rw [List.getElem?_map, k5] at k3
                rw [k5]
                simpa using k3
              rw [k5] at this
              cases this
              exact k6.1
        have rs : Rel svs (vs.map some) G1 H1 := by
          refine ⟨g1.ex, fun p sv h => ?_, fun p p' a o o' => ?_, by simp [l1, l2]⟩
          · obtain ⟨b, v, k4, k5, k6, k7⟩ := arg p sv h
            have k8 : (vs.map some)[p]? = some (some v) := by rw [List.getElem?_map, k5]; rfl
            cases b with
            | val d => cases k7; rw [k8]; exact ⟨v, rfl, k6⟩
            | own i =>
              have k7 : (ρ1[i]?).bind DL.pinned = some sv := k7
              cases e0 : ρ1[i]? with
              | none => rw [e0] at k7; cases k7
              | some s0 =>
                rw [e0] at k7
                have k7 : DL.pinned s0 = some sv := k7
                obtain ⟨k9, s9, k10, k11⟩ := k6
                rw [e0] at k10
                cases k10
                obtain ⟨a, k12, k13⟩ := (g1.rel.slot i s0 e0).own k11
                rw [k9] at k12
                cases k12
                rw [k8]
                exact .mk (k13.pinned k7)
          · obtain ⟨i, _, _, j1, _, _, _, j2⟩ := own_arg p a o
            obtain ⟨i', _, _, j1', _, _, _, j2'⟩ := own_arg p' a o'
            have := g1.rel.sep i i' a j2 j2'
            subst this
            exact ownIx_inj nd j1 j1'
        refine ⟨svs, G1, r, out, by rw [l1]; exact hl _ _ _ h1, hm, rs, fun sv hsv ho => ?_, fun v G2 H2 g2 rr => ?_⟩
        · obtain ⟨p, hp⟩ := List.getElem?_of_mem hsv
          obtain ⟨b, _, _, _, _, k7⟩ := arg p sv hp
          cases b with
          | val d => cases k7; cases ho
          | own i =>
            have k7 : (ρ1[i]?).bind DL.pinned = some sv := k7
            cases e0 : ρ1[i]? with
            | none => rw [e0] at k7; cases k7
            | some s0 => rw [e0] at k7; exact (kind_pinned (show DL.pinned s0 = some sv from k7)).2 ho
        · -- behind the call
          have sub : ∀ a, Own svs (vs.map some) a → Own ρ1 σ a := fun a ⟨p, o⟩ => by
            obtain ⟨i, _, _, _, _, _, _, j2⟩ := own_arg p a o
            exact ⟨i, j2⟩
          -- a passed slot
          have passed : ∀ (j : Nat) s0, j ∈ ownIx bs → ρ1[j]? = some s0 → isOwn s0 = true → ∃ a s', OwnAt ρ1 σ j a ∧ (putBack ρ1 bs out)[j]? = some s' ∧ ObjR G2 H2 a s' ∧ kind s' = kind s0 := fun j s0 hj h0 ho => by
            obtain ⟨p, hp⟩ := of_ownIx hj
            obtain ⟨sv, k1, k2⟩ := at2 p _ hp
            have k2 : (ρ1[j]?).bind DL.pinned = some sv := k2
            rw [h0] at k2
            have k2 : DL.pinned s0 = some sv := k2
            obtain ⟨a, k3, k4⟩ := (g1.rel.slot j s0 h0).own ho
            obtain ⟨v, k5, k6, _⟩ := at1 p _ hp
            rw [k6] at k3
            cases k3
            have k8 : (vs.map some)[p]? = some (some (.ref a)) := by rw [List.getElem?_map, k5]; rfl
            have sk := g2.same.at p
            rw [k1] at sk
            cases eo : out[p]? with
            | none => rw [eo] at sk; cases sk
            | some s1 =>
              rw [eo] at sk
              have sk : kind s1 = kind sv := Option.some.inj sk
              have o1 : isOwn s1 = true := by rw [isOwn_kind sk, (kind_pinned k2).1]; exact ho
              obtain ⟨a', k9, k10⟩ := (g2.rel.slot p s1 eo).own o1
              rw [k8] at k9
              cases k9
              obtain ⟨k11, k12⟩ := k10.reflag (s0 := s0) ho fun s2 e2 => by rw [k2] at e2; cases e2; exact sk.symm
              exact ⟨a, _, ⟨⟨s0, h0, ho⟩, k6⟩, putBack_at bs out ρ1 p j s1 s0 nd hp eo h0, k11, k12⟩
          have imm_not : ∀ (j : Nat) s0, j ∈ ownIx bs → ρ1[j]? = some s0 → isOwn s0 = true := fun j s0 hj h0 => by
            obtain ⟨p, hp⟩ := of_ownIx hj
            obtain ⟨v, k5, k6, s', k7, k8⟩ := at1 p _ hp
            rw [h0] at k7
            cases k7
            exact k8
          have sk : SameK ρ1 (putBack ρ1 bs out) := by
            apply List.ext_getElem?
            intro j
            rw [List.getElem?_map, List.getElem?_map]
            by_cases c : j ∈ ownIx bs
            · cases e0 : ρ1[j]? with
              | none =>
                have : (putBack ρ1 bs out)[j]? = none := by
                  rw [List.getElem?_eq_none_iff, putBack_len]
                  exact List.getElem?_eq_none_iff.mp e0
                rw [this]
              | some s0 =>
                obtain ⟨a, s', _, k1, _, k2⟩ := passed j s0 c e0 (imm_not j s0 c e0)
                rw [k1]
                simp [k2]
            · rw [putBack_not _ _ _ _ c]
          have rel2 : Rel (putBack ρ1 bs out) σ G2 H2 := by
            refine ⟨g2.ex, fun j sv hj => ?_, fun i j a o o' => g1.rel.sep i j a (ownAt_same sk o) (ownAt_same sk o'), by rw [putBack_len]; exact g1.rel.len⟩
            by_cases c : j ∈ ownIx bs
            · have hlt : j < ρ1.length := by
                have := (List.getElem?_eq_some_iff.mp hj).1
                rwa [putBack_len] at this
              obtain ⟨a, s', k0, k1, k2, _⟩ := passed j ρ1[j] c (List.getElem?_eq_getElem hlt) (imm_not j _ c (List.getElem?_eq_getElem hlt))
              rw [hj] at k1
              cases k1
              rw [k0.2]
              exact .mk k2
            · rw [putBack_not _ _ _ _ c] at hj
              have k := g1.rel.slot j sv hj
              have mv : ∀ b, σ[j]? = some (some (.ref b)) → ObjR G1 H1 b sv → ObjR G2 H2 b sv := fun b hb ob =>
                g2.stp.obj ob fun ⟨p, o⟩ => by
                  obtain ⟨i, _, _, j1, _, _, _, j2⟩ := own_arg p b o
                  have := g1.rel.sep i j b j2 ⟨⟨sv, hj, ob.isOwn⟩, hb⟩
                  subst this
                  exact c (mem_ownIx j1)
              cases sv with
              | no => trivial
              | imm d => obtain ⟨v, k3, k4⟩ := k; exact ⟨v, k3, Rp.ex g2.stp.exG _ k4⟩
              | lst p ds => obtain ⟨b, k3, k4⟩ := k; exact ⟨b, k3, mv b k3 k4⟩
              | dic p t ds => obtain ⟨b, k3, k4⟩ := k; exact ⟨b, k3, mv b k3 k4⟩
          refine q v G2 H2 (g1.trans ⟨g1.rel, rel2, g2.stp.mono sub, sk⟩) ?_
          cases r with
          | val d => exact rr
          | new sv => obtain ⟨a, k1, k2, k3⟩ := rr; exact ⟨a, k1, g1.back k2, k3⟩
      · cases h2
    · cases h2
  · cases h2
def retD : Ret → Option Dt
  | .val d => some d
  | .new sv => svD sv
def retN : Ret → Option SV
  | .val _ => none
  | .new sv => some sv
def mRE (m : M Ret) : M Dt := bnd m fun r => lft (retD r)
def mRN (m : M Ret) : M SV := bnd m fun r => lft (retN r)
theorem sim_rE {m : M Ret} {t : TE} (s : SimR m t) : SimE (mRE m) t := fun ρ d ρ' σ G H Q e rl q => by
  obtain ⟨r, ρ1, h1, h2⟩ := bnd_some e
  obtain ⟨h3, rfl⟩ := lft_some h2
  refine s ρ r _ σ G H Q h1 rl fun v G1 H1 g1 rr => ?_
  cases r with
  | val d' => cases h3; exact q v G1 H1 g1 rr
  | new sv =>
    obtain ⟨a, rfl, h0, ob⟩ := rr
    cases sv with
    | no => exact ob.elim
    | imm d => exact ob.elim
    | lst p ds =>
      cases h3
      obtain ⟨k1, vs, k2, k3⟩ := ob
      exact q _ _ _ (g1.freeze h0 k1 k2) (.lst upd_same (RpAll.ex (Ex.new k1) _ k3))
    | dic p t ds =>
      cases h3
      obtain ⟨k1, o, k2, k3⟩ := ob
      exact q _ _ _ (g1.freeze h0 k1 k2) ((k3.ex (Ex.new k1)).rp upd_same)
theorem sim_rN {m : M Ret} {t : TE} (s : SimR m t) : SimN (mRN m) t := fun ρ d ρ' σ G H Q e rl q => by
  obtain ⟨r, ρ1, h1, h2⟩ := bnd_some e
  obtain ⟨h3, rfl⟩ := lft_some h2
  refine s ρ r _ σ G H Q h1 rl fun v G1 H1 g1 rr => ?_
  cases r with
  | val d' => cases h3
  | new sv =>
    cases h3
    obtain ⟨a, rfl, h0, ob⟩ := rr
    exact q a G1 H1 g1 h0 ob
/-- a def of the text, by its promise -/
def Cal (P : Program) (w : World) (K : PySem.W.Frag) (mg : Str → Option Value) (base : Heap) (x : Str) (k n : Nat) (m : Fnm) : Prop := ∃ f fd ps, FnG P w K mg base CX0 k f fd ps (spD n m) ∧ mg x = some (.ref f) ∧ PySem.W.keepIn K (.ref f) = true ∧ Binds K fd ps []
section
variable {X : Cx} {x : Str} {k n : Nat} {m : Fnm} {e : Expr} {es : List Expr} {ta : TA} {ma : M (List BR)} {p pos : Pos}
structure DR (X : Cx) (e : Expr) (t : TE) (m : M Ret) : Prop where
  pe : PE X e t
  sim : SimR m t
/-- how many arguments -/
def ArgN (ma : M (List BR)) (n : Nat) : Prop := ∀ ρ bs ρ', ma ρ = some (bs, ρ') → bs.length = n
theorem argN_nil : ArgN mNil 0 := fun ρ bs ρ' h => by obtain ⟨rfl, _⟩ := ret_some h; rfl
theorem argN_cons {a : M BR} {r : M (List BR)} {n : Nat} (h : ArgN r n) : ArgN (mCons a r) (n + 1) := fun ρ bs ρ' e => by
  obtain ⟨x, ρ1, h1, h2⟩ := bnd_some e
  obtain ⟨xs, ρ2, h3, h4⟩ := bnd_some h2
  obtain ⟨rfl, rfl⟩ := ret_some h4
  rw [List.length_cons, h _ _ _ h3]
theorem dr_call (C : Cal X.prog X.w X.K X.mg X.base x k n m) (hr : Rm k X.A) (ha : DA X (e :: es) ta ma) (hn : ArgN ma n := by exact argN_cons (by first | exact argN_nil | exact argN_cons (by first | exact argN_nil | exact argN_cons (by first | exact argN_nil | exact argN_cons (by first | exact argN_nil | exact argN_cons (by first | exact argN_nil | exact argN_cons argN_nil)))))) (hg : Gl X x := by rfl) (hdb : (x == ("__debug__" : Str)) = false := by decide) (he : starEach (e :: es) X.env = (false, eval e X.env) :: starEach es X.env := by rfl) (hpl : (backTo pos (starEach es X.env)).any (·.1) = false := by rfl) :
    DR X (.Call (.Name x p) (e :: es) [] pos) (tCall (spD n m) [] E0 ta) (mCall m ma) := by
  obtain ⟨f, fd, ps, F, hm, hk, hb⟩ := C
  exact ⟨pe_callG F hr hg hm hk hb pass0 ha.pa hdb he hpl, sim_call ha.sim hn⟩
theorem dr_call0 (C : Cal X.prog X.w X.K X.mg X.base x k 0 m) (hr : Rm k X.A) (hg : Gl X x := by rfl) (hdb : (x == ("__debug__" : Str)) = false := by decide) : DR X (.Call (.Name x p) [] [] pos) (tCall (spD 0 m) [] E0 tNil) (mCall m mNil) := by
  obtain ⟨f, fd, ps, F, hm, hk, hb⟩ := C
  exact ⟨pe_callG0 F hr hg hm hk hb pass0 hdb, sim_call (da_nil (X := X)).sim argN_nil⟩
theorem Cal.mono {P : Program} {w : World} {K : PySem.W.Frag} {mg : Str → Option Value} {base : Heap} {j : Nat} (C : Cal P w K mg base x j n m) (h : j ≤ k) : Cal P w K mg base x k n m := by
  obtain ⟨f, fd, ps, F, r⟩ := C
  exact ⟨f, fd, ps, F.mono h, r⟩
theorem DR.de {e : Expr} {t : TE} {m : M Ret} (h : DR X e t m) : DE X e t (mRE m) := ⟨h.pe, sim_rE h.sim⟩
theorem DR.dn {e : Expr} {t : TE} {m : M Ret} (h : DR X e t m) : DN X e t (mRN m) := ⟨h.pe, sim_rN h.sim⟩
end
end DL
end
section
set_option maxRecDepth 100000
set_option maxHeartbeats 4000000
/-! DL9: statements, a def's promise by its body. -/
namespace DL
open PySem L2

/-! ### statements -/
structure Ent where
  ρ0 : En
  σ0 : L2.St
  G0 : Hp
  H0 : Hp
structure RS (E : Ent) (ρ : En) (σ : L2.St) (G H : Hp) : Prop where
  rel : Rel ρ σ G H
  stp : Stp (Own E.ρ0 E.σ0) E.G0 E.H0 G H
  own : ∀ i a, OwnAt ρ σ i a → OwnAt E.ρ0 E.σ0 i a ∨ E.H0 a = none
  pin : ∀ (i : Nat) sv, E.ρ0[i]? = some sv → isOwn sv = true → σ[i]? = E.σ0[i]? ∧ ∃ sv', ρ[i]? = some sv' ∧ kind sv' = kind sv ∧ isPin sv' = true
inductive Out where
  | nx | bk | ct
  | rt (r : Ret)
def OutR (E : Ent) (D : Ends) (σ : L2.St) (G H : Hp) : Out → Prop
  | .nx => D.nx σ H
  | .bk => D.bk σ H
  | .ct => D.ct σ H
  | .rt r => ∀ v, RetR E.H0 G H v r → D.rt v H
abbrev MS := M Out
def SimS (m : MS) (t : TS) : Prop := ∀ E ρ o ρ' σ G H D, m ρ = some (o, ρ') → RS E ρ σ G H → (∀ σ' G' H', RS E ρ' σ' G' H' → Ex G G' → OutR E D σ' G' H' o) → t D σ H
structure DS (X : Cx) (st : Stmt) (t : TS) (m : MS) : Prop where
  ps : PS X st t
  sim : SimS m t
structure DSs (X : Cx) (st : List Stmt) (t : TS) (m : MS) : Prop where
  pss : PSs X st t
  sim : SimS m t
section
variable {E : Ent} {ρ ρ1 : En} {σ σ1 : L2.St} {G H G1 H1 : Hp}
theorem RS.go (r : RS E ρ σ G H) (g : Go ρ σ G H ρ1 G1 H1) : RS E ρ1 σ G1 H1 where
  rel := g.rel
  stp := r.stp.trans g.stp fun x ⟨i, o⟩ => (r.own i x o).imp (fun o => ⟨i, o⟩) id
  own := fun i a o => r.own i a (ownAt_same g.same o)
  pin := fun i sv h ho => by
    obtain ⟨k1, s, k2, k3, k4⟩ := r.pin i sv h ho
    refine ⟨k1, ?_⟩
    have q := g.same.at i
    rw [k2] at q
    cases e : ρ1[i]? with
    | none => rw [e] at q; cases q
    | some s' =>
      rw [e] at q
      have q : kind s' = kind s := Option.some.inj q
      exact ⟨s', rfl, q.trans k3, by unfold isPin at *; rw [q]; exact k4⟩
theorem RS.tg {is : List Nat} (r : RS E ρ σ G H) (rl : Rel ρ1 σ1 G H) (t : TgR is ρ σ ρ1 σ1) : RS E ρ1 σ1 G H where
  rel := rl
  stp := r.stp
  own := fun i a o => r.own i a (t.own i a o)
  pin := fun i sv h ho => by
    obtain ⟨k1, s, k2, k3, k4⟩ := r.pin i sv h ho
    have ni : i ∉ is := fun hi => by
      rw [t.pin i s hi k2] at k4; cases k4
    obtain ⟨q1, q2⟩ := t.out i ni
    exact ⟨q2.trans k1, s, q1.trans k2, k3, k4⟩
/-- a new own object is stored -/
theorem RS.new {i : Nat} {sv s0 : SV} {a : Addr} (r : RS E ρ σ G H) (h : ObjR G H a sv) (hn : ¬ Own ρ σ a) (h0 : E.H0 a = none) (hi : ρ[i]? = some s0) (np : isPin s0 = false) : RS E (ρ.set i sv) (σ.set i (some (.ref a))) G H where
  rel := r.rel.setOwn h hn
  stp := r.stp
  own := fun j b o => by
    by_cases c : j = i
    · subst c
      obtain ⟨_, q⟩ := o
      by_cases c : j < σ.length
      · rw [List.getElem?_set_self c] at q; cases q; exact .inr h0
      · rw [List.getElem?_eq_none (by simpa using c)] at q; cases q
    · exact r.own j b (ownAt_set o c)
  pin := fun j sv h ho => by
    obtain ⟨k1, s, k2, k3, k4⟩ := r.pin j sv h ho
    have ni : j ≠ i := fun e => by
      subst e
      rw [hi] at k2
      cases k2
      rw [np] at k4; cases k4
    exact ⟨by rw [List.getElem?_set_ne (Ne.symm ni)]; exact k1, s, by rw [List.getElem?_set_ne (Ne.symm ni)]; exact k2, k3, k4⟩
theorem Stp.back {O : Addr → Prop} (g : Stp O G H G1 H1) {x : Addr} (hx : H1 x = none) : H x = none := by
  cases z : H x with
  | none => rfl
  | some o => exact absurd hx (g.live x (by rw [z]; exact fun w => nomatch w))
end

/-! ### blocks -/
def mNext : MS := ret .nx
def mSeq (a b : MS) : MS := fun ρ => match a ρ with
  | some (.nx, ρ1) => b ρ1
  | r => r
section
variable {X : Cx} {st : Stmt} {rest : List Stmt} {t u : TS} {m n : MS} {pos : Pos} {e : Expr} {te : TE}
theorem sim_seq (s1 : SimS m t) (s2 : SimS n u) : SimS (mSeq m n) (tSeq t u) := fun E ρ o ρ' σ G H D e r q => by
  unfold mSeq at e
  split at e
  · rename_i ρ1 e1
    exact s1 E ρ .nx ρ1 σ G H _ e1 r fun σ1 G1 H1 r1 x1 => s2 E ρ1 o ρ' σ1 G1 H1 D e r1 fun σ2 G2 H2 r2 x2 => q σ2 G2 H2 r2 (x1.trans x2)
  · rename_i h
    refine s1 E ρ o ρ' σ G H _ e r fun σ1 G1 H1 r1 x1 => ?_
    cases o with
    | nx => exact absurd e (h _)
    | bk => exact q σ1 G1 H1 r1 x1
    | ct => exact q σ1 G1 H1 r1 x1
    | rt r => exact q σ1 G1 H1 r1 x1
theorem dss_nil : DSs X [] tNext mNext := ⟨pss_nil, fun E ρ o ρ' σ G H D e r q => by
  obtain ⟨rfl, rfl⟩ := ret_some e
  exact q σ G H r (Ex.refl G)⟩
theorem dss_cons (h1 : DS X st t m) (h2 : DSs X rest u n) : DSs X (st :: rest) (tSeq t u) (mSeq m n) := ⟨pss_cons h1.ps h2.pss, sim_seq h1.sim h2.sim⟩
theorem dss_one (h1 : DS X st t m) : DSs X [st] t m := ⟨pss_one h1.ps, h1.sim⟩
theorem ds_pass : DS X (.Pass pos) tNext mNext := ⟨ps_pass, dss_nil (X := X).sim⟩
theorem ds_break : DS X (.Break pos) tBreak (ret .bk) := ⟨ps_break, fun E ρ o ρ' σ G H D e r q => by
  obtain ⟨rfl, rfl⟩ := ret_some e
  exact q σ G H r (Ex.refl G)⟩
theorem ds_continue : DS X (.Continue pos) tCont (ret .ct) := ⟨ps_continue, fun E ρ o ρ' σ G H D e r q => by
  obtain ⟨rfl, rfl⟩ := ret_some e
  exact q σ G H r (Ex.refl G)⟩
theorem ds_doc {x j pos'} : DS X (.Expr (.Constant (.str x) j pos) pos') tNext mNext := ⟨ps_doc, dss_nil (X := X).sim⟩
/-- never reached -/
def mNever : MS := fun _ => none
theorem ds_never : DS X st tNever mNever := ⟨ps_never, fun E ρ o ρ' σ G H D e r q => nomatch e⟩
/-- return -/
def mRet (me : M Dt) : MS := bnd me fun d => ret (.rt (.val d))
def mRetN (me : M SV) : MS := bnd me fun s => ret (.rt (.new s))
theorem ds_ret {me : M Dt} (h : DE X e te me) : DS X (.Return (some e) pos) (tRet te) (mRet me) := ⟨ps_ret h.pe, fun E ρ o ρ' σ G H D ee r q => by
  obtain ⟨d, ρ1, h1, h2⟩ := bnd_some ee
  obtain ⟨rfl, rfl⟩ := ret_some h2
  exact h.sim ρ d _ σ G H _ h1 r.rel fun v G1 H1 g1 rv => q σ G1 H1 (r.go g1) g1.exG v rv⟩
theorem ds_retN {me : M SV} (h : DN X e te me) : DS X (.Return (some e) pos) (tRet te) (mRetN me) := ⟨ps_ret h.pe, fun E ρ o ρ' σ G H D ee r q => by
  obtain ⟨d, ρ1, h1, h2⟩ := bnd_some ee
  obtain ⟨rfl, rfl⟩ := ret_some h2
  exact h.sim ρ d _ σ G H _ h1 r.rel fun a G1 H1 g1 h0 ob => q σ G1 H1 (r.go g1) g1.exG _ ⟨a, rfl, r.stp.back h0, ob⟩⟩
theorem ds_ret0 : DS X (.Return none pos) tRetN (ret (.rt (.val .none))) := ⟨ps_retN, fun E ρ o ρ' σ G H D ee r q => by
  obtain ⟨rfl, rfl⟩ := ret_some ee
  exact q σ G H r (Ex.refl G) _ .non⟩
/-- return of an own list, an own dict (not a parameter) -/
def mRetV (i : Nat) : MS := fun ρ => match ρ[i]? with
  | some (.lst false ds) => some (.rt (.new (.lst false ds)), ρ)
  | some (.dic false t ds) => some (.rt (.new (.dic false t ds)), ρ)
  | _ => none
theorem ownAt_pin {E : Ent} {ρ : En} {σ : L2.St} {G H : Hp} {i : Nat} {a : Addr} (r : RS E ρ σ G H) {sv : SV} (hi : ρ[i]? = some sv) (np : isPin sv = false) (o : OwnAt ρ σ i a) : E.H0 a = none := by
  rcases r.own i a o with ⟨⟨s, k1, k2⟩, k3⟩ | h
  · obtain ⟨_, s', k4, _, k5⟩ := r.pin i s k1 k2
    rw [hi] at k4
    cases k4
    rw [np] at k5; cases k5
  · exact h
theorem ds_retV (i : Nat) {x : Str} {p : Pos} (hN : X.N[i]? = some x := by rfl) (hv : Vis X.env.scope x := by first | exact Or.inl rfl | exact Or.inr (Or.inl rfl) | exact Or.inr (Or.inr rfl)) (hd : (x == ("__debug__" : Str)) = false := by decide)
    (hcd : (x == ("__classdict__" : Str)) = false := by decide) : DS X (.Return (some (.Name x p)) pos) (tRet (tVar i)) (mRetV i) := ⟨ps_ret (pe_var hN hv hd hcd), fun E ρ o ρ' σ G H D ee r q => by
  unfold mRetV at ee
  split at ee
  · rename_i ds hi
    cases ee
    obtain ⟨a, k1, k2⟩ := r.rel.slot i _ hi
    exact ⟨_, k1, q σ G H r (Ex.refl G) _ ⟨a, rfl, ownAt_pin r hi rfl ⟨⟨_, hi, rfl⟩, k1⟩, k2⟩⟩
  · rename_i tt ds hi
    cases ee
    obtain ⟨a, k1, k2⟩ := r.rel.slot i _ hi
    exact ⟨_, k1, q σ G H r (Ex.refl G) _ ⟨a, rfl, ownAt_pin r hi (by cases tt <;> rfl) ⟨⟨_, hi, by cases tt <;> rfl⟩, k1⟩, k2⟩⟩
  · cases ee⟩
/-- return of a tuple with own lists in it: the own lists (no parameters) become known -/
def frzSV : SV → SV
  | .lst false ds => .imm (.list ds)
  | s => s
def mRetF (me : M Dt) : MS := fun ρ => mRet me (ρ.map frzSV)
theorem frz_rs {E : Ent} {ρ : En} {σ : L2.St} {G H : Hp} (r : RS E ρ σ G H) : ∃ G1, RS E (ρ.map frzSV) σ G1 H ∧ Ex G G1 := by
  -- slot by slot
  have step : ∀ n, n ≤ ρ.length → ∃ G1, RS E ((ρ.take n).map frzSV ++ ρ.drop n) σ G1 H ∧ Ex G G1 := by
    intro n
    induction n with
    | zero => intro _; exact ⟨G, by simpa using r, Ex.refl G⟩
    | succ n ih =>
      intro hn
      obtain ⟨G1, r1, x1⟩ := ih (by omega)
      have hlt : n < ρ.length := by omega
      have lt : ((ρ.take n).map frzSV).length = n := by simp; omega
      have e1 : (ρ.take n).map frzSV ++ ρ.drop n = (ρ.take n).map frzSV ++ ρ[n] :: ρ.drop (n + 1) := by rw [List.drop_eq_getElem_cons hlt]
      have e2 : (ρ.take (n + 1)).map frzSV ++ ρ.drop (n + 1) = (ρ.take n).map frzSV ++ frzSV ρ[n] :: ρ.drop (n + 1) := by rw [List.take_succ_eq_append_getElem hlt, List.map_append, List.append_assoc]; rfl
      rw [e1] at r1
      rw [e2]
      have gt : ∀ (s : SV) (j : Nat), ((ρ.take n).map frzSV ++ s :: ρ.drop (n + 1))[j]? = if j = n then some s else ((ρ.take n).map frzSV ++ ρ[n] :: ρ.drop (n + 1))[j]? := fun s j => by
        by_cases c : j = n
        · subst c
          rw [if_pos rfl, List.getElem?_append_right (by omega)]
          have : j - ((ρ.take j).map frzSV).length = 0 := by omega
          rw [this]
          rfl
        · rw [if_neg c]
          by_cases c2 : j < n
          · rw [List.getElem?_append_left (by omega), List.getElem?_append_left (by omega)]
          · obtain ⟨k, hk⟩ : ∃ k, j = n + 1 + k := ⟨j - n - 1, by omega⟩
            rw [List.getElem?_append_right (by omega), List.getElem?_append_right (by omega)]
            have : j - ((ρ.take n).map frzSV).length = k + 1 := by omega
            rw [this]
            rfl
      cases hs : ρ[n] with
      | no => rw [hs] at r1; exact ⟨G1, r1, x1⟩
      | imm d => rw [hs] at r1; exact ⟨G1, r1, x1⟩
      | dic p t d => rw [hs] at r1; exact ⟨G1, by cases p <;> cases t <;> exact r1, x1⟩
      | lst p ds =>
        cases p with
        | true => rw [hs] at r1; exact ⟨G1, r1, x1⟩
        | false =>
          rw [hs] at r1 gt
          have hi : ((ρ.take n).map frzSV ++ SV.lst false ds :: ρ.drop (n + 1))[n]? = some (.lst false ds) := by rw [gt, if_pos rfl]
          obtain ⟨a, k1, k2, vs, k3, k4⟩ := r1.rel.slot n _ hi
          have oa : OwnAt ((ρ.take n).map frzSV ++ SV.lst false ds :: ρ.drop (n + 1)) σ n a := ⟨⟨_, hi, rfl⟩, k1⟩
          have h0 : E.H0 a = none := ownAt_pin r1 hi rfl oa
          have exG : Ex G1 (upd G1 a (.lst vs)) := Ex.new k2
          have ow : ∀ {j b}, OwnAt ((ρ.take n).map frzSV ++ frzSV (SV.lst false ds) :: ρ.drop (n + 1)) σ j b → j ≠ n ∧ OwnAt ((ρ.take n).map frzSV ++ SV.lst false ds :: ρ.drop (n + 1)) σ j b := fun {j b} ⟨⟨s, p1, p2⟩, p3⟩ => by
            have q := gt (frzSV (SV.lst false ds)) j
            rw [p1] at q
            by_cases c : j = n
            · rw [if_pos c] at q
              cases q
              cases p2
            · rw [if_neg c] at q
              exact ⟨c, ⟨s, q.symm, p2⟩, p3⟩
          refine ⟨upd G1 a (.lst vs), ⟨⟨fun b u e => ?_, fun j sv hj => ?_, fun i j b o1 o2 => r1.rel.sep i j b (ow o1).2 (ow o2).2, ?_⟩, ⟨r1.stp.exG.trans exG, r1.stp.fr, fun x h5 h6 => ?_, r1.stp.live⟩, fun i b o => r1.own i b (ow o).2, fun i sv h ho => ?_⟩, x1.trans exG⟩
          · by_cases q : b = a
            · subst q; rw [upd_same] at e; cases e; exact k3
            · rw [upd_ne q] at e; exact r1.rel.ex b u e
          · rw [gt] at hj
            by_cases c : j = n
            · subst c
              rw [if_pos rfl] at hj
              cases hj
              exact ⟨_, k1, .lst upd_same (RpAll.ex exG _ k4)⟩
            · rw [if_neg c] at hj
              have k := r1.rel.slot j sv hj
              have mv : ∀ b, σ[j]? = some (some (.ref b)) → ObjR G1 H b sv → ObjR (upd G1 a (.lst vs)) H b sv := fun b hb ob =>
                ob.move exG (by rw [upd_ne (fun z => c (r1.rel.sep j n b ⟨⟨sv, hj, ob.isOwn⟩, hb⟩ (by rw [z]; exact oa)))]; exact ob.there.1) fun _ z => z
              cases sv with
              | no => trivial
              | imm d => obtain ⟨v, k5, k6⟩ := k; exact ⟨v, k5, Rp.ex exG _ k6⟩
              | lst p ds => obtain ⟨b, k5, k6⟩ := k; exact ⟨b, k5, mv b k5 k6⟩
              | dic p t ds => obtain ⟨b, k5, k6⟩ := k; exact ⟨b, k5, mv b k5 k6⟩
          · rw [← r1.rel.len]; simp
          · rw [upd_ne (fun z => h6 (by rw [z]; exact h0))]
            exact r1.stp.new x h5 h6
          · obtain ⟨k5, s, k6, k7, k8⟩ := r1.pin i sv h ho
            refine ⟨k5, s, ?_, k7, k8⟩
            rw [gt]
            by_cases c : i = n
            · subst c
              rw [hi] at k6
              cases k6
              cases k8
            · rw [if_neg c]; exact k6
  obtain ⟨G1, r1, x1⟩ := step ρ.length (Nat.le_refl _)
  exact ⟨G1, by simpa using r1, x1⟩
theorem ds_retF {me : M Dt} (h : DE X e te me) : DS X (.Return (some e) pos) (tRet te) (mRetF me) := ⟨ps_ret h.pe, fun E ρ o ρ' σ G H D ee r q => by
  obtain ⟨G1, r1, x1⟩ := frz_rs r
  exact (ds_ret (pos := pos) h).sim E _ o ρ' σ G1 H D ee r1 fun σ2 G2 H2 r2 x2 => q σ2 G2 H2 r2 (x1.trans x2)⟩
/-- target = value -/
def mAsg (me : M Dt) (g : MG) : MS := bnd me fun d => fun ρ => match g d ρ with
  | some ρ1 => some (.nx, ρ1)
  | none => none
theorem sim_asg {me : M Dt} {is : List Nat} {mg : MG} {g : TG} (s : SimE me te) (sg : SimG is mg g) : SimS (mAsg me mg) (tAsg te g) := fun E ρ o ρ' σ G H D ee r q => by
  obtain ⟨d, ρ1, h1, h2⟩ := bnd_some ee
  split at h2
  · rename_i ρ2 e2
    cases h2
    exact s ρ d ρ1 σ G H _ h1 r.rel fun v G1 H1 g1 rv => sg d ρ1 _ σ v G1 H1 _ e2 g1.rel rv fun σ2 rl2 t2 => q σ2 G1 H1 ((r.go g1).tg rl2 t2) g1.exG
  · cases h2
def mAsgN (me : M SV) (i : Nat) : MS := bnd me fun s => fun ρ => match ρ[i]? with
  | some s0 => if isPin s0 then none else some (.nx, ρ.set i s)
  | none => none
theorem sim_asgN {me : M SV} {i : Nat} (s : SimN me te) : SimS (mAsgN me i) (tAsg te (gName i)) := fun E ρ o ρ' σ G H D ee r q => by
  obtain ⟨sv, ρ1, h1, h2⟩ := bnd_some ee
  split at h2
  · rename_i s0 hi
    split at h2
    · cases h2
    · rename_i c
      cases h2
      exact s ρ sv ρ1 σ G H _ h1 r.rel fun a G1 H1 g1 h0 ob => q _ G1 H1 ((r.go g1).new ob (fun ow => g1.ownOld ow h0) (r.stp.back h0) hi (by simpa using c)) g1.exG
  · cases h2
theorem ds_asg {tg : Expr} {is : List Nat} {me : M Dt} {g : TG} {mg : MG} (h : DE X e te me) (hg : DG X tg is g mg) (hs : swapsWithSole [tg] e pos.line X.env = pure false := by rfl) (hw : swappedStores [tg] e X.env = pure none := by rfl)
    (h1 : (assignEach [tg] X.env).map (·.2) = [assign tg X.env] := by rfl) : DS X (.Assign [tg] e pos) (tAsg te g) (mAsg me mg) := ⟨ps_asg h.pe hg.pg hs hw h1, sim_asg h.sim hg.sim⟩
theorem ds_set (i : Nat) {x : Str} {me : M Dt} {pos' : Pos} (hN : X.N.Nodup) (h : DE X e te me) (hi : X.N[i]? = some x := by rfl) (hx : Loc X.env.scope x := by first | exact Or.inl rfl | exact Or.inr rfl) (hs : swapsWith e (some (.Name x pos')) pos.line X.env = pure false := by rfl)
    (hf : X.fn x = true ∨ X.env.scope.names.lookup x = some .local := by first | exact .inl rfl | exact .inr rfl | assumption) : DS X (.Assign [.Name x pos'] e pos) (tAsg te (gName i)) (mAsg me (mgN i)) := ⟨ps_set hN hi hx h.pe hs hf, sim_asg h.sim sim_gName⟩
theorem ds_setN (i : Nat) {x : Str} {me : M SV} {pos' : Pos} (hN : X.N.Nodup) (h : DN X e te me) (hi : X.N[i]? = some x := by rfl) (hx : Loc X.env.scope x := by first | exact Or.inl rfl | exact Or.inr rfl) (hs : swapsWith e (some (.Name x pos')) pos.line X.env = pure false := by rfl)
    (hf : X.fn x = true ∨ X.env.scope.names.lookup x = some .local := by first | exact .inl rfl | exact .inr rfl | assumption) : DS X (.Assign [.Name x pos'] e pos) (tAsg te (gName i)) (mAsgN me i) := ⟨ps_set hN hi hx h.pe hs hf, sim_asgN h.sim⟩
/-- if -/
def mIfS (c : M Bool) (a b : MS) : MS := bnd c fun k => if k then a else b
theorem ds_if {c : Expr} {a b : List Stmt} {tc : TT} {mc : M Bool} (hc : DT X c tc mc) (ha : DSs X a t m) (hb : DSs X b u n) : DS X (.If c a b pos) (tIfS tc t u) (mIfS mc m n) := ⟨ps_if hc.pt ha.pss hb.pss, fun E ρ o ρ' σ G H D ee r q => by
  obtain ⟨k, ρ1, h1, h2⟩ := bnd_some ee
  refine hc.sim ρ k ρ1 σ G H _ h1 r.rel fun G1 H1 g1 => ?_
  cases k with
  | true => exact ha.sim E ρ1 o ρ' σ G1 H1 D h2 (r.go g1) fun σ2 G2 H2 r2 x2 => q σ2 G2 H2 r2 (g1.exG.trans x2)
  | false => exact hb.sim E ρ1 o ρ' σ G1 H1 D h2 (r.go g1) fun σ2 G2 H2 r2 x2 => q σ2 G2 H2 r2 (g1.exG.trans x2)⟩
/-- for -/
def mForL (g : MG) (b : MS) : List Dt → MS
  | [] => ret .nx
  | d :: ds => fun ρ => match g d ρ with
    | none => none
    | some ρ1 => match b ρ1 with
      | none => none
      | some (.nx, ρ2) => mForL g b ds ρ2
      | some (.ct, ρ2) => mForL g b ds ρ2
      | some (.bk, ρ2) => some (.nx, ρ2)
      | some (.rt r, ρ2) => some (.rt r, ρ2)
def mFor (mi : M (List Dt × Gd)) (g : MG) (b : MS) : MS := bnd mi fun x => if x.2.isEmpty then mForL g b x.1 else fun _ => none
theorem sim_for {mi : M (List Dt × Gd)} {wi : TI} {is : List Nat} {mg : MG} {g : TG} (si : SimI mi wi) (sg : SimG is mg g) (sb : SimS m t) : SimS (mFor mi mg m) (tFor wi g t) := fun E ρ o ρ' σ G H D ee r q => by
  obtain ⟨⟨ds, gs⟩, ρ1, h1, h2⟩ := bnd_some ee
  simp only at h2
  split at h2
  · rename_i hg
    have hg : gs = [] := by simpa using hg
    subst hg
    refine si ρ ds [] ρ1 σ G H _ h1 r.rel fun J as G1 H1 g1 gr wk => ?_
    cases gr
    refine ⟨fun i k σ' H' => k = ds.length - i ∧ i ≤ ds.length ∧ ∃ ρc Gc, RS E ρc σ' Gc H' ∧ Ex G1 Gc ∧ mForL mg m (ds.drop i) ρc = some (o, ρ'), ⟨ds.length, rfl, Nat.zero_le _, ρ1, G1, r.go g1, Ex.refl _, by rw [List.drop_zero]; exact h2⟩, ?_⟩
    rintro i k σ' H' ⟨rfl, hi, ρc, Gc, rc, ex, kg⟩
    obtain ⟨w1, w2⟩ := wk Gc H' ex rc.rel.ex (fun _ h => nomatch h) i
    by_cases hlt : i < ds.length
    · obtain ⟨go1, yl⟩ := w1 ds[i] (List.getElem?_eq_getElem hlt)
      refine .inr ⟨go1, _, fun σ2 H2 n => ⟨ds.length - (i + 1), by omega, n⟩, fun x H3 y => ?_⟩
      obtain ⟨G3, gw, rx⟩ := yl x H3 y
      rw [List.drop_eq_getElem_cons hlt] at kg
      simp only [mForL] at kg
      split at kg
      · cases kg
      · rename_i ρt et
        have r3 := rc.go ((Go.refl rc.rel).grow gw)
        refine sg ds[i] ρc ρt σ' x G3 H3 _ et r3.rel rx fun σ2 rl2 tr => ?_
        have r4 := r3.tg rl2 tr
        have exG : Ex G1 G3 := ex.trans gw.exG
        split at kg
        · cases kg
        · rename_i ρ2 e2
          exact sb E ρt .nx ρ2 σ2 G3 H3 _ e2 r4 fun σ5 G5 H5 r5 x5 => ⟨rfl, hlt, ρ2, G5, r5, exG.trans x5, kg⟩
        · rename_i ρ2 e2
          exact sb E ρt .ct ρ2 σ2 G3 H3 _ e2 r4 fun σ5 G5 H5 r5 x5 => ⟨rfl, hlt, ρ2, G5, r5, exG.trans x5, kg⟩
        · rename_i ρ2 e2
          cases kg
          exact sb E ρt .bk ρ' σ2 G3 H3 _ e2 r4 fun σ5 G5 H5 r5 x5 => q σ5 G5 H5 r5 (g1.exG.trans (exG.trans x5))
        · rename_i rr ρ2 e2
          cases kg
          exact sb E ρt (.rt rr) ρ' σ2 G3 H3 _ e2 r4 fun σ5 G5 H5 r5 x5 => q σ5 G5 H5 r5 (g1.exG.trans (exG.trans x5))
    · have e : i = ds.length := by omega
      subst e
      refine .inl ⟨w2 rfl, ?_⟩
      rw [List.drop_length] at kg
      obtain ⟨rfl, rfl⟩ := ret_some (show DL.ret .nx ρc = some (o, ρ') from kg)
      exact q σ' Gc H' rc (g1.exG.trans ex)
  · cases h2
theorem ds_for {tg iter : Expr} {body : List Stmt} {mi : M (List Dt × Gd)} {wi : TI} {is : List Nat} {mg : MG} {g : TG} (hi : DI X tg iter wi mi) (hg : DG X tg is g mg) (hb : DSs X body t m) (hc : X.calm = true := by rfl)
    (hp : PassesOwn (model X.prog X.w) X.A X.env X.xe := by exact PassesOwn.never) (hs : ∀ x, foldedSetIterable iter X.env x = pure x := by intro _; rfl) : DS X (.For tg iter body [] pos) (tFor wi g t) (mFor mi mg m) := ⟨ps_for hp hc hi.pi hg.pg hb.pss hs, sim_for hi.sim hg.sim hb.sim⟩
/-- while: the turns are counted down -/
def FUEL : Nat := 100000
def mWh (c : M Bool) (b : MS) : Nat → MS
  | 0 => fun _ => none
  | n + 1 => fun ρ => match c ρ with
    | none => none
    | some (false, ρ1) => some (.nx, ρ1)
    | some (true, ρ1) => match b ρ1 with
      | none => none
      | some (.nx, ρ2) => mWh c b n ρ2
      | some (.ct, ρ2) => mWh c b n ρ2
      | some (.bk, ρ2) => some (.nx, ρ2)
      | some (.rt r, ρ2) => some (.rt r, ρ2)
def mWhile (c : M Bool) (b : MS) : MS := mWh c b FUEL
theorem sim_while {c : M Bool} {tc : TT} (sc : SimT c tc) (sb : SimS m t) (N : Nat) : SimS (mWh c m N) (tWhile tc t) := fun E ρ o ρ' σ G H D ee r q => by
  refine ⟨fun k σ' H' => ∃ ρc Gc, RS E ρc σ' Gc H' ∧ Ex G Gc ∧ mWh c m k ρc = some (o, ρ'), ⟨N, ρ, G, r, Ex.refl G, ee⟩, ?_⟩
  rintro k σ' H' ⟨ρc, Gc, rc, ex, kg⟩
  cases k with
  | zero => cases kg
  | succ k =>
    simp only [mWh] at kg
    split at kg
    · cases kg
    · rename_i ρ1 e1
      cases kg
      exact sc ρc false ρ' σ' Gc H' _ e1 rc.rel fun G1 H1 g1 => by
        rw [if_neg Bool.false_ne_true]
        exact q σ' G1 H1 (rc.go g1) (ex.trans g1.exG)
    · rename_i ρ1 e1
      refine sc ρc true ρ1 σ' Gc H' _ e1 rc.rel fun G1 H1 g1 => ?_
      rw [if_pos rfl]
      refine ⟨fun σ2 H2 => ∃ ρc Gc, RS E ρc σ2 Gc H2 ∧ Ex G Gc ∧ mWh c m k ρc = some (o, ρ'), fun σ2 H2 n => ⟨k, Nat.lt_succ_self k, n⟩, ?_⟩
      have ex1 := ex.trans g1.exG
      split at kg
      · cases kg
      · rename_i ρ2 e2
        exact sb E ρ1 .nx ρ2 σ' G1 H1 _ e2 (rc.go g1) fun σ5 G5 H5 r5 x5 => ⟨ρ2, G5, r5, ex1.trans x5, kg⟩
      · rename_i ρ2 e2
        exact sb E ρ1 .ct ρ2 σ' G1 H1 _ e2 (rc.go g1) fun σ5 G5 H5 r5 x5 => ⟨ρ2, G5, r5, ex1.trans x5, kg⟩
      · rename_i ρ2 e2
        cases kg
        exact sb E ρ1 .bk ρ' σ' G1 H1 _ e2 (rc.go g1) fun σ5 G5 H5 r5 x5 => q σ5 G5 H5 r5 (ex1.trans x5)
      · rename_i rr ρ2 e2
        cases kg
        exact sb E ρ1 (.rt rr) ρ' σ' G1 H1 _ e2 (rc.go g1) fun σ5 G5 H5 r5 x5 => q σ5 G5 H5 r5 (ex1.trans x5)
theorem ds_while {c : Expr} {body : List Stmt} {tc : TT} {mc : M Bool} (hc : DT X c tc mc) (hb : DSs X body t m) (hp : PassesOwn (model X.prog X.w) X.A X.env X.xe := by exact PassesOwn.never) : DS X (.While c body [] pos) (tWhile tc t) (mWhile mc m) := ⟨ps_while hp hc.pt hb.pss, sim_while hc.sim hb.sim FUEL⟩
end

/-! ### a def by its body -/
def outOf : List SV → En → List SV
  | [], _ => []
  | s :: ss, [] => s :: outOf ss []
  | s :: ss, x :: ρ => (if isOwn s then x else s) :: outOf ss ρ
def fnOf (N : Nat) (body : MS) : Fnm := fun svs => match body (svs ++ List.replicate (N - svs.length) .no) with
  | some (.rt r, ρ) => some (r, outOf svs ρ)
  | some (.nx, ρ) => some (.val .none, outOf svs ρ)
  | _ => none
theorem outOf_get : ∀ (svs : List SV) (ρ : En) (i : Nat) (s : SV), svs[i]? = some s → (outOf svs ρ)[i]? = some (if isOwn s then (ρ[i]?).getD s else s)
  | [], _, _, _, h => by simp at h
  | s :: ss, [], 0, t, h => by simp at h; subst h; simp [outOf]
  | s :: ss, x :: ρ, 0, t, h => by simp at h; subst h; simp [outOf]
  | s :: ss, [], i + 1, t, h => by
    simp at h
    have := outOf_get ss [] i t h
    simpa [outOf] using this
  | s :: ss, x :: ρ, i + 1, t, h => by
    simp at h
    have := outOf_get ss ρ i t h
    simpa [outOf] using this
theorem outOf_len : ∀ (svs : List SV) (ρ : En), (outOf svs ρ).length = svs.length
  | [], _ => rfl
  | s :: ss, [] => by simp [outOf, outOf_len ss]
  | s :: ss, x :: ρ => by simp [outOf, outOf_len ss]
section
variable {P : Program} {w : World} {K : PySem.W.Frag} {mg : Str → Option Value} {base : Heap}
theorem rs_start {svs : List SV} {vs : List V} {N : List Str} {G H : Hp} (r : Rel svs (vs.map some) G H) (hp : ∀ sv ∈ svs, isOwn sv = true → isPin sv = true) :
    RS ⟨svs, vs.map some, G, H⟩ (svs ++ List.replicate (N.length - svs.length) .no) (L2.start N vs) G H := by
  have hl : svs.length = vs.length := by simpa using r.len
  have get1 : ∀ (i : Nat) sv, (svs ++ List.replicate (N.length - svs.length) .no)[i]? = some sv → isOwn sv = true ∨ kind sv = 1 → svs[i]? = some sv := fun i sv h k => by
    by_cases c : i < svs.length
    · rwa [List.getElem?_append_left c] at h
    · rw [List.getElem?_append_right (by omega), List.getElem?_replicate] at h
      split at h
      · cases h; rcases k with k | k <;> cases k
      · cases h
  have get2 : ∀ i : Nat, i < svs.length → (L2.start N vs)[i]? = (vs.map some)[i]? := fun i h => by
    unfold L2.start
    rw [List.getElem?_append_left (by simp; omega)]
  have own : ∀ i a, OwnAt (svs ++ List.replicate (N.length - svs.length) .no) (L2.start N vs) i a → OwnAt svs (vs.map some) i a := fun i a ⟨⟨sv, h1, h2⟩, h3⟩ => by
    have k := get1 i sv h1 (.inl h2)
    exact ⟨⟨sv, k, h2⟩, by rw [← get2 i (List.getElem?_eq_some_iff.mp k).1]; exact h3⟩
  refine ⟨⟨r.ex, fun i sv h => ?_, fun i j a o o' => r.sep i j a (own i a o) (own j a o'), ?_⟩, Stp.refl G H, fun i a o => .inl (own i a o), fun i sv h ho => ?_⟩
  · cases sv with
    | no => trivial
    | imm d => have k := get1 i _ h (.inr rfl); rw [get2 i (List.getElem?_eq_some_iff.mp k).1]; exact r.slot i _ k
    | lst p d => have k := get1 i _ h (.inl (by cases p <;> (try cases t) <;> rfl)); rw [get2 i (List.getElem?_eq_some_iff.mp k).1]; exact r.slot i _ k
    | dic p t d => have k := get1 i _ h (.inl (by cases p <;> (try cases t) <;> rfl)); rw [get2 i (List.getElem?_eq_some_iff.mp k).1]; exact r.slot i _ k
  · unfold L2.start; simp; omega
  · have hlt := (List.getElem?_eq_some_iff.mp h).1
    exact ⟨get2 i hlt, sv, by rw [List.getElem?_append_left hlt]; exact h, rfl, hp sv (List.mem_of_getElem? h) ho⟩
theorem rs_end {svs : List SV} {vs : List V} {G H G' H' : Hp} {ρ : En} {σ : L2.St} (r0 : Rel svs (vs.map some) G H) (r : RS ⟨svs, vs.map some, G, H⟩ ρ σ G' H') : Go svs (vs.map some) G H (outOf svs ρ) G' H' := by
  have out : ∀ (i : Nat) sv, (outOf svs ρ)[i]? = some sv → ∃ s, svs[i]? = some s ∧ ((isOwn s = false ∧ sv = s) ∨ (isOwn s = true ∧ ρ[i]? = some sv ∧ kind sv = kind s ∧ σ[i]? = (vs.map some)[i]?)) := fun i sv h => by
    have hlt : i < svs.length := by have := (List.getElem?_eq_some_iff.mp h).1; rwa [outOf_len] at this
    have e := outOf_get svs ρ i svs[i] (List.getElem?_eq_getElem hlt)
    rw [h] at e
    refine ⟨svs[i], List.getElem?_eq_getElem hlt, ?_⟩
    by_cases c : isOwn svs[i] = true
    · rw [if_pos c] at e
      obtain ⟨k1, s', k2, k3, k4⟩ := r.pin i svs[i] (List.getElem?_eq_getElem hlt) c
      rw [k2] at e
      cases e
      exact .inr ⟨c, k2, k3, k1⟩
    · rw [if_neg c] at e
      cases e
      exact .inl ⟨by simpa using c, rfl⟩
  have sk : SameK svs (outOf svs ρ) := by
    apply List.ext_getElem?
    intro i
    rw [List.getElem?_map, List.getElem?_map]
    cases e : (outOf svs ρ)[i]? with
    | none =>
      have : svs[i]? = none := by
        rw [List.getElem?_eq_none_iff] at e ⊢
        rwa [outOf_len] at e
      rw [this]
    | some sv =>
      obtain ⟨s, k1, k2⟩ := out i sv e
      rw [k1]
      rcases k2 with ⟨_, rfl⟩ | ⟨_, _, k, _⟩
      · rfl
      · simp [k]
  refine ⟨r0, ⟨r.rel.ex, fun i sv h => ?_, fun i j a o o' => r0.sep i j a (ownAt_same sk o) (ownAt_same sk o'), by rw [outOf_len]; exact r0.len⟩, r.stp, sk⟩
  obtain ⟨s, k1, k2⟩ := out i sv h
  rcases k2 with ⟨k2, rfl⟩ | ⟨k2, k3, k4, k5⟩
  · have k := r0.slot i sv k1
    cases sv with
    | no => trivial
    | imm d => obtain ⟨v, k5, k6⟩ := k; exact ⟨v, k5, Rp.ex r.stp.exG _ k6⟩
    | lst p _ => cases p <;> cases k2
    | dic p t _ => cases p <;> cases t <;> cases k2
  · rw [← k5]
    exact r.rel.slot i sv k3
/-- THE RULE for a def -/
theorem cal_of {x y qual : Str} {st : Stmt} {f : Addr} {fd : FuncData} {N ps : List Str} {k n N' : Nat} {m : MS} (F : Fun K y qual st f fd) (S : FnScope N ps (defScope st)) (hm : mg x = some (.ref f)) (hb : Binds K fd ps []) (hn : ps.length = n) (hN : N.length = N')
    (hbody : ∀ (cdv : Value) (A : Around) (outer : List Env) (s : Shared) (H : Hp) (E : XK), Rm k (A.deeper (PyProof.Rows.envOfC qual (defScope st) s.heap.objs.size f cdv)) →
      ∃ t, DSs (cxOf CX0 P w K mg base N qual (defScope st) f cdv A outer s H E).nox (defBody st) t m) : Cal P w K mg base x (k + 1) n (fnOf N' m) := by
  refine ⟨f, fd, ps, fng_of F S (fun vs H Q E h => ?_) (fun cdv A outer s H vs Q E hr h => ?_), hm, F.kp, hb⟩
  · obtain ⟨_, _, _, _, h, _⟩ := h
    rw [h, hn]
  · obtain ⟨t, hd⟩ := hbody cdv A outer s H E hr
    refine ⟨t, hd.pss.nox, ?_⟩
    obtain ⟨svs, G, r, out, _, e, r0, hp, q⟩ := h
    unfold fnOf at e
    have rs := rs_start (N := N) r0 hp
    rw [hN] at rs
    split at e
    · rename_i r' ρ eb
      cases e
      exact hd.sim _ _ _ _ _ _ _ _ eb rs fun σ' G' H' rs' _ v rr => q v G' H' (rs_end r0 rs') rr
    · rename_i ρ eb
      cases e
      exact hd.sim _ _ _ _ _ _ _ _ eb rs fun σ' G' H' rs' _ => q .non G' H' (rs_end r0 rs') .non
    · cases e
end
end DL
end
section
set_option maxRecDepth 100000
set_option maxHeartbeats 4000000
/-! DL10: methods of own lists, stores to them, several targets at once. -/
namespace DL
open PySem L2
open AutoSeq1 (wpAny_loadPart')
/-! ### an own list is changed -/
section
variable {ρ : En} {σ : L2.St} {G H : Hp}
theorem sameK_set {i : Nat} {s s' : SV} (h : ρ[i]? = some s) (k : kind s' = kind s) : SameK ρ (ρ.set i s') := by
  apply List.ext_getElem?
  intro j
  rw [List.getElem?_map, List.getElem?_map, List.getElem?_set]
  by_cases c : i = j
  · subst c
    have hlt := (List.getElem?_eq_some_iff.mp h).1
    rw [if_pos rfl, if_pos hlt, h]
    simp [k]
  · rw [if_neg c]
theorem Rel.updOwn {i : Nat} {s s' : SV} {a : Addr} {o : HO} (r : Rel ρ σ G H) (h : ρ[i]? = some s) (hs : σ[i]? = some (some (.ref a))) (ho : isOwn s = true) (k : kind s' = kind s) (ob : ObjR G (upd H a o) a s') : Go ρ σ G H (ρ.set i s') G (upd H a o) := by
  have sk := sameK_set h k
  have oa : OwnAt ρ σ i a := ⟨⟨s, h, ho⟩, hs⟩
  have ga := (r.notG ⟨i, oa⟩).1
  refine ⟨r, ⟨r.ex.mut ga, fun j sv hj => ?_, fun x y b o1 o2 => r.sep x y b (ownAt_same sk o1) (ownAt_same sk o2), by rw [List.length_set]; exact r.len⟩, ⟨Ex.refl G, fun x u hx nx => ?_, fun _ h _ => h, fun x hx => ?_⟩, sk⟩
  · by_cases c : j = i
    · subst c
      rw [List.getElem?_set_self (List.getElem?_eq_some_iff.mp h).1] at hj
      cases hj
      rw [hs]
      exact .mk ob
    · rw [List.getElem?_set_ne (Ne.symm c)] at hj
      have q := r.slot j sv hj
      have mv : ∀ b, σ[j]? = some (some (.ref b)) → ObjR G H b sv → ObjR G (upd H a o) b sv := fun b hb ob => ob.move (Ex.refl G) ob.there.1 fun u hu => by
        rw [upd_ne (fun z => c (r.sep j i a ⟨⟨sv, hj, ob.isOwn⟩, by rw [← z]; exact hb⟩ oa))]
        exact hu
      cases sv with
      | no => trivial
      | imm d => exact q
      | lst p ds => obtain ⟨b, h3, h4⟩ := q; exact ⟨b, h3, mv b h3 h4⟩
      | dic p t ds => obtain ⟨b, h3, h4⟩ := q; exact ⟨b, h3, mv b h3 h4⟩
  · rw [upd_ne (fun z => nx ⟨i, by rw [z]; exact oa⟩)]
    exact hx
  · by_cases c : x = a
    · rw [c, upd_same]; exact fun q => nomatch q
    · rw [upd_ne c]; exact hx
end
def isLst (s : Option SV) : Bool := match s with
  | some (.lst _ _) => true
  | _ => false
def putL (i : Nat) (f : List Dt → Option (Dt × List Dt)) : M Dt := fun ρ => match ρ[i]? with
  | some (.lst p ds) => match f ds with
    | some (d, ds') => some (d, ρ.set i (.lst p ds'))
    | none => none
  | _ => none
/-- xs.m(), xs.m(e), xs.m(e, f) -/
def mMt0 (i : Nat) (f : List Dt → Option (Dt × List Dt)) : M Dt := putL i f
def mMt1 (i : Nat) (f : List Dt → Dt → Option (Dt × List Dt)) (m : M BR) : M Dt := fun ρ => if isLst ρ[i]? then (bnd m fun b => fun ρ1 => match brD ρ1 b with
  | some x => putL i (fun ds => f ds x) ρ1
  | none => none) ρ else none
def mMtE (i : Nat) (f : List Dt → Dt → Option (Dt × List Dt)) (m : M Dt) : M Dt := fun ρ => if isLst ρ[i]? then (bnd m fun x => putL i (fun ds => f ds x)) ρ else none
def mMt2 (i : Nat) (f : List Dt → Dt → Dt → Option (Dt × List Dt)) (m n : M Dt) : M Dt := fun ρ => if isLst ρ[i]? then (bnd m fun x => bnd n fun y => putL i (fun ds => f ds x y)) ρ else none
def Mt (r : V → List V → Hp → VK → Prop) (f : List Dt → Option (Dt × List Dt)) (us : List V) (G : Hp) : Prop := ∀ (a : Addr) vs ds d ds' H (Q : VK), f ds = some (d, ds') → H a = some (.lst vs) → RpAll G vs ds → Ex G H →
  (∀ v vs', RpAll G vs' ds' → Rp G v d → Q v (upd H a (.lst vs'))) → r (.ref a) us H Q
theorem putL_go {K : PySem.W.Frag} {r : V → List V → Hp → VK → Prop} {f : List Dt → Option (Dt × List Dt)} {i : Nat} {us : List V} {ρ ρ' : En} {σ : L2.St} {G H : Hp} {d : Dt} {Q : VK} (h : putL i f ρ = some (d, ρ')) (rl : Rel ρ σ G H) (m : Mt r f us G)
    (q : ∀ v H', Go ρ σ G H ρ' G H' → Rp G v d → Q v H') : ∃ a vs, σ[i]? = some (some (.ref a)) ∧ H a = some (.lst vs) ∧ r (.ref a) us H Q := by
  unfold putL at h
  split at h
  · rename_i p ds hi
    split at h
    · rename_i d' ds' hf
      cases h
      obtain ⟨a, k1, k2, vs, k3, k4⟩ := rl.slot i _ hi
      refine ⟨a, vs, k1, k3, m a vs ds d ds' H Q hf k3 k4 rl.ex fun v vs' k5 k6 => q v _ ?_ k6⟩
      exact rl.updOwn hi k1 (by cases p <;> rfl) (by cases p <;> rfl) ⟨k2, vs', upd_same, k5⟩
    · cases h
  · cases h
theorem isLst_slot {i : Nat} {ρ : En} {σ : L2.St} {G H : Hp} (h : isLst ρ[i]? = true) (rl : Rel ρ σ G H) : ∃ a vs, σ[i]? = some (some (.ref a)) ∧ H a = some (.lst vs) := by
  unfold isLst at h
  split at h
  · rename_i p ds hi
    obtain ⟨a, k1, k2, vs, k3, k4⟩ := rl.slot i _ hi
    exact ⟨a, vs, k1, k3⟩
  · cases h
section
variable {X : Cx} {K : PySem.W.Frag} {i : Nat} {x : Str} {e e2 : Expr} {te te2 : TE} {p apos pos cpos : Pos}
theorem sim_mt0 {r : V → List V → Hp → VK → Prop} {f : List Dt → Option (Dt × List Dt)} (m : ∀ G, Mt r f [] G) : SimE (mMt0 i f) (tBM0 K "list" r (tVar i)) := fun ρ d ρ' σ G H Q ee rl q => by
  obtain ⟨a, vs, k1, k2, k3⟩ := putL_go (K := K) (Q := Q) ee rl (m G) fun v H' g rv => q v G H' g rv
  exact ⟨_, k1, .inl ⟨rfl, _, SqL.of k2⟩, k3⟩
theorem sim_mt1 {r : V → List V → Hp → VK → Prop} {f : List Dt → Dt → Option (Dt × List Dt)} {me : M BR} (se : SimB me te) (m : ∀ G H v y, Top G H v y → Ex G H → ∀ (a : Addr) vs ds d ds' (Q : VK), f ds y = some (d, ds') → H a = some (.lst vs) → RpAll G vs ds →
  (∀ v vs', RpAll G vs' ds' → Rp G v d → Q v (upd H a (.lst vs'))) → r (.ref a) [v] H Q) : SimE (mMt1 i f me) (tBM K "list" r (tVar i) (tCons te tNil)) := fun ρ d ρ' σ G H Q ee rl q => by
  unfold mMt1 at ee
  split at ee
  · rename_i c
    obtain ⟨a, vs, k1, k2⟩ := isLst_slot c rl
    obtain ⟨b, ρ1, h1, h2⟩ := bnd_some ee
    refine ⟨_, k1, .inl ⟨rfl, _, SqL.of k2⟩, se ρ b ρ1 σ G H _ h1 rl fun v G1 H1 g1 b1 => ?_⟩
    split at h2
    · rename_i y hy
      unfold putL at h2
      split at h2
      · rename_i p ds hi
        split at h2
        · rename_i d' ds' hf
          cases h2
          obtain ⟨a', k3, k4, ws, k5, k6⟩ := g1.rel.slot i _ hi
          rw [k1] at k3
          cases k3
          refine m G1 H1 v y (brTop g1.rel hy b1) g1.ex a ws ds d ds' Q hf k5 k6 fun v' ws' k7 k8 => q v' G1 _ (g1.trans ?_) k8
          exact g1.rel.updOwn hi k1 (by cases p <;> rfl) (by cases p <;> rfl) ⟨k4, ws', upd_same, k7⟩
        · cases h2
      · cases h2
    · cases h2
  · cases ee
theorem sim_mtE {r : V → List V → Hp → VK → Prop} {f : List Dt → Dt → Option (Dt × List Dt)} {me : M Dt} (se : SimE me te) (m : ∀ G H v y, Rp G v y → Ex G H → ∀ (a : Addr) vs ds d ds' (Q : VK), f ds y = some (d, ds') → H a = some (.lst vs) → RpAll G vs ds →
  (∀ v vs', RpAll G vs' ds' → Rp G v d → Q v (upd H a (.lst vs'))) → r (.ref a) [v] H Q) : SimE (mMtE i f me) (tBM K "list" r (tVar i) (tCons te tNil)) := fun ρ d ρ' σ G H Q ee rl q => by
  unfold mMtE at ee
  split at ee
  · rename_i c
    obtain ⟨a, vs, k1, k2⟩ := isLst_slot c rl
    obtain ⟨y, ρ1, h1, h2⟩ := bnd_some ee
    refine ⟨_, k1, .inl ⟨rfl, _, SqL.of k2⟩, se ρ y ρ1 σ G H _ h1 rl fun v G1 H1 g1 b1 => ?_⟩
    unfold putL at h2
    split at h2
    · rename_i p ds hi
      split at h2
      · rename_i d' ds' hf
        cases h2
        obtain ⟨a', k3, k4, ws, k5, k6⟩ := g1.rel.slot i _ hi
        rw [k1] at k3
        cases k3
        refine m G1 H1 v y b1 g1.ex a ws ds d ds' Q hf k5 k6 fun v' ws' k7 k8 => q v' G1 _ (g1.trans ?_) k8
        exact g1.rel.updOwn hi k1 (by cases p <;> rfl) (by cases p <;> rfl) ⟨k4, ws', upd_same, k7⟩
      · cases h2
    · cases h2
  · cases ee
theorem sim_mt2 {r : V → List V → Hp → VK → Prop} {f : List Dt → Dt → Dt → Option (Dt × List Dt)} {me me2 : M Dt} (se : SimE me te) (se2 : SimE me2 te2) (m : ∀ G H v y v2 y2, Rp G v y → Rp G v2 y2 → Ex G H → ∀ (a : Addr) vs ds d ds' (Q : VK), f ds y y2 = some (d, ds') → H a = some (.lst vs) → RpAll G vs ds →
  (∀ v vs', RpAll G vs' ds' → Rp G v d → Q v (upd H a (.lst vs'))) → r (.ref a) [v, v2] H Q) : SimE (mMt2 i f me me2) (tBM K "list" r (tVar i) (tCons te (tCons te2 tNil))) := fun ρ d ρ' σ G H Q ee rl q => by
  unfold mMt2 at ee
  split at ee
  · rename_i c
    obtain ⟨a, vs, k1, k2⟩ := isLst_slot c rl
    obtain ⟨y, ρ1, h1, h⟩ := bnd_some ee
    obtain ⟨y2, ρ2, h2, h3⟩ := bnd_some h
    refine ⟨_, k1, .inl ⟨rfl, _, SqL.of k2⟩, se ρ y ρ1 σ G H _ h1 rl fun v G1 H1 g1 b1 => se2 ρ1 y2 ρ2 σ G1 H1 _ h2 g1.rel fun v2 G2 H2 g2 b2 => ?_⟩
    unfold putL at h3
    split at h3
    · rename_i p ds hi
      split at h3
      · rename_i d' ds' hf
        cases h3
        obtain ⟨a', k3, k4, ws, k5, k6⟩ := g2.rel.slot i _ hi
        rw [k1] at k3
        cases k3
        refine m G2 H2 v y v2 y2 (Rp.ex g2.exG _ b1) b2 g2.ex a ws ds d ds' Q hf k5 k6 fun v' ws' k7 k8 => q v' G2 _ ((g1.trans g2).trans ?_) k8
        exact g2.rel.updOwn hi k1 (by cases p <;> rfl) (by cases p <;> rfl) ⟨k4, ws', upd_same, k7⟩
      · cases h3
    · cases h3
  · cases ee
/-- the conditions at a method's call -/
abbrev Few (X : Cx) (es : List Expr) (cpos : Pos) : Prop := ((backTo cpos (starEach es X.env)).all (fun x => !x.1) && (backToKw cpos (keywordEach [] X.env)).all (fun x => x.1.isSome)
      && decide (es.length + ([] : List Keyword).length + (if ([] : List Keyword).isEmpty then 0 else 1) < 30)) = true
def fApp (ds : List Dt) (x : Dt) : Option (Dt × List Dt) := if ds.length < LIM then some (.none, ds ++ [x]) else none
def fIns (ds : List Dt) (i x : Dt) : Option (Dt × List Dt) := match i with
  | .int i => if ds.length < LIM ∧ 0 ≤ i ∧ i ≤ ds.length then some (.none, ds.take i.toNat ++ x :: ds.drop i.toNat) else none
  | _ => none
def fPop (ds : List Dt) : Option (Dt × List Dt) := match ds[ds.length - 1]? with
  | some x => some (x, ds.dropLast)
  | none => none
def fPopAt (ds : List Dt) (i : Dt) : Option (Dt × List Dt) := match i with
  | .int i => if -(2 ^ 63) ≤ i ∧ i < 2 ^ 63 then match seqIndex? i ds.length with
    | some k => match ds[k]? with
      | some x => some (x, ds.eraseIdx k)
      | none => none
    | none => none else none
  | _ => none
def fExt (ds : List Dt) (x : Dt) : Option (Dt × List Dt) := match x with
  | .list es => if ds.length + es.length ≤ LIM then some (.none, ds ++ es) else none
  | .tuple es => if ds.length + es.length ≤ LIM then some (.none, ds ++ es) else none
  | _ => none
end
namespace Ext
open PySem.Spec PyProof.Rows AutoSeq1
set_option maxRecDepth 8000 in
theorem extend_tup (l : Addr) (items : Array Value) (n : Nat) (b : Addr) (d : Option Addr) (sl : Array (Option Value)) (items2 : Array Value) (n2 : Nat) (hs0 : ¬(!items.isEmpty && Builtin.List.listTooLong (items.size + items2.size)) = true) (hs1 : items.size ≤ sizeLine) (hs2 : items.size + items2.size ≤ sizeLine + 1) :
    Meets (Builtin.«list.extend» ⟨[.ref l, .ref b], []⟩) (fun _ R s => s.heap.get? l = some { cls := .type "list", dict := none, data := .seq items n, slots := #[] } ∧ s.heap.get? b = some { cls := .type "tuple", dict := d, data := .seq items2 n2, slots := sl } ∧ R (.ok (.ret Value.none)) { s with heap := s.heap.update l (Obj.mapSeq fun x => x ++ items2), toks := s.toks }) :=
  .of_wp fun prog w A R s h => by
    obtain ⟨hp, g, dd, tk, os⟩ := s; obtain ⟨hl, hb, h⟩ := h; have f1 := idx_int; have f2 := AutoSeq1.sub_tuple_tuple; have f3 := AutoSeq1.sub_list_list; have f4 := AutoSeq1.sub_tuple_list; have f5 := AutoSeq1.sub_list_tuple
    have hz' : (items ++ items2).size ≤ sizeLine + 1 := by rw [Array.size_append]; exact hs2
    wp_walk using (wpAny_updateSeq hl rfl (hz := hs1) (_hz' := hz')), wpAny_loadPart' hl, wpAny_loadPart' hb; exact ⟨_, rfl, h⟩
end Ext
section
open PySem.Spec PyProof.Rows
def rExtT (K : PySem.W.Frag) : V → List V → Hp → VK → Prop := fun x vs H Q => ∃ l b xs zs, x = .ref l ∧ vs = [.ref b] ∧ H l = some (.lst xs) ∧ SqT K H b zs ∧ xs.length + zs.length ≤ sizeLine ∧ Q .non (upd H l (.lst (xs ++ zs)))
theorem mt_extT {X : Cx} : MtR X "list.extend" (rExtT X.K) := by
  intro pins s σ H x vs v us Q I rx rv h
  obtain ⟨l, b, xs, zs, rfl, rfl, hH, hB, hz, q⟩ := h
  cases rx
  obtain ⟨u, rfl, ru⟩ := rv.one
  cases ru
  obtain ⟨z, its, n, r, hl, e⟩ := I.lstM hH
  obtain ⟨its2, r2, ⟨o2, he2, hc2, n2, hd2⟩, z2⟩ := I.tuple hB
  have hl2 := r2.length
  obtain ⟨c, d, dt, sl⟩ := o2
  cases hc2
  cases hd2
  have hsz : its.toArray.size + its2.toArray.size ≤ sizeLine := by rw [List.size_toArray, List.size_toArray]; omega
  have hlong : ¬ (!its.toArray.isEmpty && Builtin.List.listTooLong (its.toArray.size + its2.toArray.size)) = true := by
    rw [notLongL hsz, Bool.and_false]
    exact Bool.false_ne_true
  refine call_meets F.slot_list_extend ⟨_, e, rfl⟩ F.entry_list_extend (F.args_list_extend_2 _ _)
    (Ext.extend_tup l its.toArray n b d sl its2.toArray n2 hlong (by rw [List.size_toArray]; omega) (by omega)) ⟨e, he2, ?_⟩
  refine ⟨.non, _, I.lset (its' := its ++ its2) hH e (by simp) (r.append r2) ?_, rfl, q⟩
  rw [List.length_append]
  omega
def rExtA (K : PySem.W.Frag) : V → List V → Hp → VK → Prop := fun x vs H Q => rExtend x vs H Q ∨ rExtT K x vs H Q
theorem mt_extA {X : Cx} : MtR X "list.extend" (rExtA X.K) := fun pins s σ H x vs v us Q I rx rv h => h.elim (mt_extend pins s σ H x vs v us Q I rx rv) (mt_extT pins s σ H x vs v us Q I rx rv)
def rPopAtL : V → List V → Hp → VK → Prop := rPopAt
def rInsert : V → List V → Hp → VK → Prop := fun x vs H Q => ∃ (l : Addr) (xs : List V) (i : Int) (y : V), x = .ref l ∧ vs = [.int i, y] ∧ H l = some (.lst xs) ∧ xs.length < sizeLine ∧ 0 ≤ i ∧ i < 2 ^ 63 ∧
    Q .non (upd H l (.lst (xs.take i.toNat ++ [y] ++ xs.drop i.toNat)))
theorem mt_ins {X : Cx} : MtR X "list.insert" rInsert := mt_insert
end
section
variable {X : Cx} {K : PySem.W.Frag} {i : Nat} {x : Str} {e e2 : Expr} {te te2 : TE} {p apos pos cpos : Pos}
theorem de_append (i : Nat) {me : M Dt} (h : DE X e te me) (hN : X.N[i]? = some x := by rfl) (hv : Vis X.env.scope x := by first | exact Or.inl rfl | exact Or.inr (Or.inl rfl) | exact Or.inr (Or.inr rfl)) (hd : (x == ("__debug__" : Str)) = false := by decide) (hcd : (x == ("__classdict__" : Str)) = false := by decide)
    (hb : attributeBase (.Name x p) "append" X.env (eval (.Name x p) X.env) = eval (.Name x p) X.env := by rfl) (hf : Few X [e] cpos := by rfl) (hl : (apos.endLine == cpos.line) = true := by rfl) (hs : starEach [e] X.env = (false, eval e X.env) :: starEach [] X.env := by rfl) :
    DE X (.Call (.Attribute (.Name x p) "append" apos) [e] [] cpos) (tBM X.K "list" rAppend (tVar i) (tCons te tNil)) (mMtE i fApp me) := by
  refine ⟨pe_bm PySem.F.plainAttrs_list PySem.F.slot_list_append PySem.F.type_list_append mt_append (pe_var hN hv hd hcd) (pa_cons h.pe pa_nil hs) hb hf hl hs rfl, sim_mtE h.sim fun G H v y t ex a vs ds d ds' Q e1 k1 k2 q => ?_⟩
  unfold fApp at e1
  split at e1
  · rename_i c
    cases e1
    exact ⟨a, vs, v, rfl, rfl, k1, by rw [k2.length]; exact lim_lt (by omega), q _ _ (k2.append (.one t)) .non⟩
  · cases e1
theorem de_insert (i : Nat) {me me2 : M Dt} (h : DE X e te me) (h2 : DE X e2 te2 me2) (hN : X.N[i]? = some x := by rfl) (hv : Vis X.env.scope x := by first | exact Or.inl rfl | exact Or.inr (Or.inl rfl) | exact Or.inr (Or.inr rfl)) (hd : (x == ("__debug__" : Str)) = false := by decide) (hcd : (x == ("__classdict__" : Str)) = false := by decide)
    (hb : attributeBase (.Name x p) "insert" X.env (eval (.Name x p) X.env) = eval (.Name x p) X.env := by rfl) (hf : Few X [e, e2] cpos := by rfl) (hl : (apos.endLine == cpos.line) = true := by rfl) (hs : starEach [e, e2] X.env = (false, eval e X.env) :: starEach [e2] X.env := by rfl)
    (hs2 : starEach [e2] X.env = (false, eval e2 X.env) :: starEach [] X.env := by rfl) (hp : (backTo cpos (starEach [e2] X.env)).any (·.1) = false := by rfl) :
    DE X (.Call (.Attribute (.Name x p) "insert" apos) [e, e2] [] cpos) (tBM X.K "list" rInsert (tVar i) (tCons te (tCons te2 tNil))) (mMt2 i fIns me me2) := by
  refine ⟨pe_bm PySem.F.plainAttrs_list PySem.F.slot_list_insert PySem.F.type_list_insert mt_ins (pe_var hN hv hd hcd) (pa_cons h.pe (pa_cons h2.pe pa_nil hs2) hs) hb hf hl hs hp, sim_mt2 h.sim h2.sim fun G H v y v2 y2 t t2 ex a vs ds d ds' Q e1 k1 k2 q => ?_⟩
  unfold fIns at e1
  split at e1
  · rename_i j
    split at e1
    · rename_i c
      cases e1
      cases t
      have := @lim_lt ds.length (by omega)
      refine ⟨a, vs, j, v2, rfl, rfl, k1, by rw [k2.length]; exact this, c.2.1, ?_, q _ _ ?_ .non⟩
      · have := c.2.2; have := c.1; unfold LIM at *; omega
      · have e : ds.take j.toNat ++ y2 :: ds.drop j.toNat = ds.take j.toNat ++ [y2] ++ ds.drop j.toNat := by simp
        rw [e]
        exact ((k2.take _).append (.one t2)).append (k2.drop _)
    · cases e1
  · cases e1
theorem de_pop (i : Nat) (hN : X.N[i]? = some x := by rfl) (hv : Vis X.env.scope x := by first | exact Or.inl rfl | exact Or.inr (Or.inl rfl) | exact Or.inr (Or.inr rfl)) (hd : (x == ("__debug__" : Str)) = false := by decide) (hcd : (x == ("__classdict__" : Str)) = false := by decide)
    (hb : attributeBase (.Name x p) "pop" X.env (eval (.Name x p) X.env) = eval (.Name x p) X.env := by rfl) (hl : (apos.endLine == cpos.line) = true := by rfl) :
    DE X (.Call (.Attribute (.Name x p) "pop" apos) [] [] cpos) (tBM0 X.K "list" rPop (tVar i)) (mMt0 i fPop) := by
  refine ⟨pe_bm0 PySem.F.plainAttrs_list PySem.F.slot_list_pop PySem.F.type_list_pop mt_pop (pe_var hN hv hd hcd) hb hl, sim_mt0 fun G a vs ds d ds' H Q e1 k1 k2 ex q => ?_⟩
  unfold fPop at e1
  split at e1
  · rename_i y hy
    cases e1
    obtain ⟨v, h1, h2⟩ := k2.get hy
    exact ⟨a, vs, v, rfl, rfl, k1, by rw [k2.length]; exact h1, q _ _ k2.dropLast h2⟩
  · cases e1
theorem de_popAt (i : Nat) {me : M Dt} (h : DE X e te me) (hN : X.N[i]? = some x := by rfl) (hv : Vis X.env.scope x := by first | exact Or.inl rfl | exact Or.inr (Or.inl rfl) | exact Or.inr (Or.inr rfl)) (hd : (x == ("__debug__" : Str)) = false := by decide) (hcd : (x == ("__classdict__" : Str)) = false := by decide)
    (hb : attributeBase (.Name x p) "pop" X.env (eval (.Name x p) X.env) = eval (.Name x p) X.env := by rfl) (hf : Few X [e] cpos := by rfl) (hl : (apos.endLine == cpos.line) = true := by rfl) (hs : starEach [e] X.env = (false, eval e X.env) :: starEach [] X.env := by rfl) :
    DE X (.Call (.Attribute (.Name x p) "pop" apos) [e] [] cpos) (tBM X.K "list" rPopAt (tVar i) (tCons te tNil)) (mMtE i fPopAt me) := by
  refine ⟨pe_bm PySem.F.plainAttrs_list PySem.F.slot_list_pop PySem.F.type_list_pop mt_popAt (pe_var hN hv hd hcd) (pa_cons h.pe pa_nil hs) hb hf hl hs rfl, sim_mtE h.sim fun G H v y t ex a vs ds d ds' Q e1 k1 k2 q => ?_⟩
  unfold fPopAt at e1
  split at e1
  · rename_i j
    split at e1
    · rename_i c
      split at e1
      · rename_i k hk
        split at e1
        · rename_i y hy
          cases e1
          cases t
          obtain ⟨v, h1, h2⟩ := k2.get hy
          exact ⟨a, vs, j, k, v, rfl, rfl, k1, c.1, c.2, by rw [k2.length]; exact hk, h1, q _ _ (k2.eraseIdx k) h2⟩
        · cases e1
      · cases e1
    · cases e1
  · cases e1
theorem de_extend (i : Nat) {me : M BR} (h : DB X e te me) (hN : X.N[i]? = some x := by rfl) (hv : Vis X.env.scope x := by first | exact Or.inl rfl | exact Or.inr (Or.inl rfl) | exact Or.inr (Or.inr rfl)) (hd : (x == ("__debug__" : Str)) = false := by decide) (hcd : (x == ("__classdict__" : Str)) = false := by decide)
    (hb : attributeBase (.Name x p) "extend" X.env (eval (.Name x p) X.env) = eval (.Name x p) X.env := by rfl) (hf : Few X [e] cpos := by rfl) (hl : (apos.endLine == cpos.line) = true := by rfl) (hs : starEach [e] X.env = (false, eval e X.env) :: starEach [] X.env := by rfl) :
    DE X (.Call (.Attribute (.Name x p) "extend" apos) [e] [] cpos) (tBM X.K "list" (rExtA X.K) (tVar i) (tCons te tNil)) (mMt1 i fExt me) := by
  refine ⟨pe_bm PySem.F.plainAttrs_list PySem.F.slot_list_extend PySem.F.type_list_extend mt_extA (pe_var hN hv hd hcd) (pa_cons h.pe pa_nil hs) hb hf hl hs rfl, sim_mt1 h.sim fun G H v y t ex a vs ds d ds' Q e1 k1 k2 q => ?_⟩
  unfold fExt at e1
  split at e1
  · rename_i es
    split at e1
    · rename_i c
      cases e1
      obtain ⟨b, ws, rfl, h1, h2⟩ := t
      exact .inl ⟨a, b, vs, ws, rfl, rfl, k1, h1, by rw [k2.length, h2.length]; exact lim_line c, q _ _ (k2.append h2) .non⟩
    · cases e1
  · rename_i es
    split at e1
    · rename_i c
      cases e1
      cases t with
      | tup h1 h2 => exact .inr ⟨a, _, vs, _, rfl, rfl, k1, SqT.of (ex _ _ h1), by rw [k2.length, h2.length]; exact lim_line c, q _ _ (k2.append h2) .non⟩
    · cases e1
  · cases e1
/-- a value alone as a statement -/
def mDrop (me : M Dt) : MS := bnd me fun _ => ret .nx
theorem ds_expr {me : M Dt} (h : DE X e te me) (hs : swapsWith e none pos.line X.env = pure false := by rfl) : DS X (.Expr e pos) (tDrop te) (mDrop me) := ⟨ps_expr h.pe hs, fun E ρ o ρ' σ G H D ee r q => by
  obtain ⟨d, ρ1, h1, h2⟩ := bnd_some ee
  obtain ⟨rfl, rfl⟩ := ret_some h2
  exact h.sim ρ d _ σ G H _ h1 r.rel fun v G1 H1 g1 rv => q σ G1 H1 (r.go g1) g1.exG⟩
/-- xs[i] = e -/
def fSet (ds : List Dt) (i y : Dt) : Option (Dt × List Dt) := match i with
  | .int k => match ixN ds.length k with
    | some j => some (.none, ds.set j y)
    | none => none
  | _ => none
def mSetL (me : M Dt) (i : Nat) (mi : M Dt) : MS := bnd me fun y => bnd (mMtE i (fun ds k => fSet ds k y) mi) fun _ => ret .nx
theorem sim_setL {me mi : M Dt} {ti : TE} (se : SimE me te) (si : SimE mi ti) : SimS (mSetL me i mi) (tAsg te (gSub (tVar i) ti rSetL)) := fun E ρ o ρ' σ G H D ee r q => by
  obtain ⟨y, ρ1, h1, h⟩ := bnd_some ee
  obtain ⟨w, ρ3, h3, h4⟩ := bnd_some h
  obtain ⟨rfl, rfl⟩ := ret_some h4
  refine se ρ y ρ1 σ G H _ h1 r.rel fun v G1 H1 g1 rv => ?_
  unfold mMtE at h3
  split at h3
  · rename_i c
    obtain ⟨a, vs, k1, k2⟩ := isLst_slot c g1.rel
    obtain ⟨k, ρ2, h2, h3⟩ := bnd_some h3
    refine ⟨_, k1, si ρ1 k ρ2 σ G1 H1 _ h2 g1.rel fun kv G2 H2 g2 rk => ?_⟩
    unfold putL at h3
    split at h3
    · rename_i p ds hi
      split at h3
      · rename_i d' ds' hf
        cases h3
        have hf2 : fSet ds k y = some (w, ds') := hf
        clear hf
        cases k with
        | int kk =>
          unfold fSet at hf2
          simp only at hf2
          split at hf2
          · rename_i j hj
            cases hf2
            cases rk
            obtain ⟨a', k3, k4, ws, k5, k6⟩ := g2.rel.slot i _ hi
            rw [k1] at k3
            cases k3
            refine ⟨a, ws, kk, j, rfl, rfl, k5, by rw [k6.length]; exact hj, ?_⟩
            have g3 := g2.rel.updOwn (o := .lst (ws.set j v)) hi k1 (s' := .lst p (ds.set j y)) (by cases p <;> rfl) (by cases p <;> rfl) ⟨k4, _, upd_same, k6.set (Rp.ex g2.exG _ rv) j⟩
            have g := (g1.trans g2).trans g3
            exact q σ G2 _ (r.go g) g.exG
          · cases hf2
        | _ => cases hf2
      · cases h3
    · cases h3
  · cases h3
theorem ds_setL (i : Nat) {me mi : M Dt} {ei : Expr} {ti : TE} {spos : Pos} (h : DE X e te me) (hi : DE X ei ti mi) (hN : X.N[i]? = some x := by rfl) (hv : Vis X.env.scope x := by first | exact Or.inl rfl | exact Or.inr (Or.inl rfl) | exact Or.inr (Or.inr rfl)) (hd : (x == ("__debug__" : Str)) = false := by decide) (hcd : (x == ("__classdict__" : Str)) = false := by decide)
    (ha : ∀ v, assign (.Subscript (.Name x p) ei spos) X.env v = (do
      let ov ← holding [v] (eval (.Name x p) X.env)
      let iv ← holding [v, ov] (eval ei X.env)
      standAt spos
      holding [v, ov, iv] (setItem ov iv v)
      release [v, ov, iv] []) := by intro _; rfl)
    (hs : swapsWithSole [.Subscript (.Name x p) ei spos] e pos.line X.env = pure false := by rfl) (hw : swappedStores [.Subscript (.Name x p) ei spos] e X.env = pure none := by rfl)
    (h1 : (assignEach [.Subscript (.Name x p) ei spos] X.env).map (·.2) = [assign (.Subscript (.Name x p) ei spos) X.env] := by rfl) :
    DS X (.Assign [.Subscript (.Name x p) ei spos] e pos) (tAsg te (gSub (tVar i) ti rSetL)) (mSetL me i mi) := ⟨ps_asg h.pe (pg_sub (pe_var hN hv hd hcd) hi.pe set_list ha) hs hw h1, sim_setL h.sim hi.sim⟩
/-- x op= e -/
def SimIp (f : Dt → Dt → Option Dt) (t : TIp) : Prop := ∀ a b z G H vx vy (Q : VK), f a b = some z → Rp G vx a → Rp G vy b → Ex G H → (∀ v, Rp G v z → Q v H) → t vx vy H Q
def mAug (i : Nat) (f : Dt → Dt → Option Dt) (me : M Dt) : MS := bnd (mV i) fun a => bnd me fun b => bnd (lft (f a b)) fun z => fun ρ => match mgN i z ρ with
  | some ρ1 => some (.nx, ρ1)
  | none => none
theorem sim_aug {f : Dt → Dt → Option Dt} {t : TIp} {me : M Dt} (o : SimIp f t) (se : SimE me te) : SimS (mAug i f me) (tAug i te t) := fun E ρ oo ρ' σ G H D ee r q => by
  obtain ⟨a, ρ1, h1, h⟩ := bnd_some ee
  obtain ⟨b, ρ2, h2, h⟩ := bnd_some h
  obtain ⟨z, ρ3, h3, h4⟩ := bnd_some h
  obtain ⟨k3, e3⟩ := lft_some h3
  cases e3
  unfold mV at h1
  split at h1
  · rename_i d hi
    cases h1
    obtain ⟨vx, k1, k2⟩ := r.rel.slot i _ hi
    refine ⟨vx, k1, se ρ b ρ2 σ G H _ h2 r.rel fun vy G1 H1 g1 ry => o a b z G1 H1 vx vy _ k3 (Rp.ex g1.exG _ k2) ry g1.ex fun v rz => ?_⟩
    split at h4
    · rename_i ρ4 e4
      cases h4
      exact sim_gName z ρ2 ρ' σ v G1 H1 D.nx e4 g1.rel rz fun σ2 rl2 t2 => q σ2 G1 H1 ((r.go g1).tg rl2 t2) g1.exG
    · cases h4
  · cases h1
def dIadd : Dt → Dt → Option Dt
  | .int a, .int b => some (.int (a + b))
  | _, _ => none
def dIsub : Dt → Dt → Option Dt
  | .int a, .int b => some (.int (a - b))
  | _, _ => none
theorem simIp_add : SimIp dIadd (ipI fun i j => i + j) := fun a b z G H vx vy Q e r1 r2 ex q => by
  unfold dIadd at e
  split at e
  · cases e; cases r1; cases r2; exact ⟨_, _, rfl, rfl, q _ (.int _)⟩
  · cases e
theorem simIp_sub : SimIp dIsub (ipI fun i j => i - j) := fun a b z G H vx vy Q e r1 r2 ex q => by
  unfold dIsub at e
  split at e
  · cases e; cases r1; cases r2; exact ⟨_, _, rfl, rfl, q _ (.int _)⟩
  · cases e
theorem ds_iadd (i : Nat) {me : M Dt} {pos' : Pos} (hN : X.N.Nodup) (h : DE X e te me) (hi : X.N[i]? = some x := by rfl) (hx : Loc X.env.scope x := by first | exact Or.inl rfl | exact Or.inr rfl)
    (hf : X.fn x = true ∨ X.env.scope.names.lookup x = some .local := by first | exact .inl rfl | exact .inr rfl | assumption) : DS X (.AugAssign (.Name x pos') .Add e pos) (tAug i te (ipI fun i j => i + j)) (mAug i dIadd me) := ⟨ps_aug hN hi hx h.pe ip_add hf, sim_aug simIp_add h.sim⟩
theorem ds_isub (i : Nat) {me : M Dt} {pos' : Pos} (hN : X.N.Nodup) (h : DE X e te me) (hi : X.N[i]? = some x := by rfl) (hx : Loc X.env.scope x := by first | exact Or.inl rfl | exact Or.inr rfl)
    (hf : X.fn x = true ∨ X.env.scope.names.lookup x = some .local := by first | exact .inl rfl | exact .inr rfl | assumption) : DS X (.AugAssign (.Name x pos') .Sub e pos) (tAug i te (ipI fun i j => i - j)) (mAug i dIsub me) := ⟨ps_aug hN hi hx h.pe ip_sub hf, sim_aug simIp_sub h.sim⟩
/-- xs[i] op= e, the index not negative -/
def rGetL (K : PySem.W.Frag) : R2 := fun x y H Q => ∃ p xs k v, x = .ref p ∧ y = .int k ∧ SqL K H p xs ∧ 0 ≤ k ∧ xs[k.toNat]? = some v ∧ Q v H
theorem get_listN : PGet X (rGetL X.K) := by
  intro pins s σ H o i ov iv Q I ro ri h
  obtain ⟨p, xs, k, z, rfl, rfl, hq, h0, he, q⟩ := h
  cases ro
  obtain ⟨t, rfl⟩ := ri
  obtain ⟨its, r, pl, hz⟩ := I.list hq
  obtain ⟨w, ew, rw'⟩ := r.get he
  have hl := r.length
  have hn := L2.line63
  have hk := (List.getElem?_eq_some_iff.mp he).1
  exact PySem.wpAny_getItem_list pl.isList h0 (by omega) (by simpa using ew) ⟨z, H, I, rw', q⟩
def fGet (ds : List Dt) (k : Dt) : Option Dt := match k with
  | .int k => if 0 ≤ k then ds[k.toNat]? else none
  | _ => none
def getL (i : Nat) (k : Dt) : M Dt := fun ρ => match ρ[i]? with
  | some (.lst _ ds) => match fGet ds k with
    | some d => some (d, ρ)
    | none => none
  | _ => none
def mAugS (i : Nat) (mi : M Dt) (f : Dt → Dt → Option Dt) (me : M Dt) : MS := fun ρ => if isLst ρ[i]? then (bnd mi fun k => bnd (getL i k) fun a => bnd me fun b => bnd (lft (f a b)) fun z => bnd (putL i fun ds => fSet ds k z) fun _ => ret .nx) ρ else none
theorem sim_augS {mi me : M Dt} {ti : TE} {f : Dt → Dt → Option Dt} {t : TIp} (o : SimIp f t) (si : SimE mi ti) (se : SimE me te) : SimS (mAugS i mi f me) (tAugS (tVar i) ti te (rGetL K) t rSetL) := fun E ρ oo ρ' σ G H D ee r q => by
  unfold mAugS at ee
  split at ee
  · rename_i c
    obtain ⟨a0, vs0, k1, _⟩ := isLst_slot c r.rel
    obtain ⟨k, ρ1, h1, h⟩ := bnd_some ee
    obtain ⟨a, ρ2, h2, h⟩ := bnd_some h
    obtain ⟨b, ρ3, h3, h⟩ := bnd_some h
    obtain ⟨z, ρ4, h4, h⟩ := bnd_some h
    obtain ⟨w, ρ5, h5, h6⟩ := bnd_some h
    obtain ⟨rfl, rfl⟩ := ret_some h6
    obtain ⟨f4, e4⟩ := lft_some h4
    cases e4
    refine ⟨_, k1, si ρ k ρ1 σ G H _ h1 r.rel fun kv G1 H1 g1 rk => ?_⟩
    unfold getL at h2
    split at h2
    · rename_i p ds hi
      split at h2
      · rename_i a' hg
        cases h2
        have hg2 : fGet ds k = some a := hg
        clear hg
        cases k with
        | int kk =>
          unfold fGet at hg2
          simp only at hg2
          split at hg2
          · rename_i c0
            cases rk
            obtain ⟨a1, k3, k4, ws, k5, k6⟩ := g1.rel.slot i _ hi
            rw [k1] at k3
            cases k3
            obtain ⟨va, e1, e2⟩ := k6.get hg2
            refine ⟨a0, ws, kk, va, rfl, rfl, SqL.of k5, c0, e1, se ρ1 b ρ3 σ G1 H1 _ h3 g1.rel fun vb G2 H2 g2 rb => ?_⟩
            refine o a b z G2 H2 va vb _ f4 (Rp.ex g2.exG _ e2) rb g2.ex fun vz rz => ?_
            unfold putL at h5
            split at h5
            · rename_i p2 ds2 hi2
              split at h5
              · rename_i d' ds' hf
                cases h5
                have hf2 : fSet ds2 (.int kk) z = some (w, ds') := hf
                clear hf
                unfold fSet at hf2
                simp only at hf2
                split at hf2
                · rename_i j hj
                  cases hf2
                  obtain ⟨a2, k7, k8, ws2, k9, k10⟩ := g2.rel.slot i _ hi2
                  rw [k1] at k7
                  cases k7
                  refine ⟨a0, ws2, kk, j, rfl, rfl, k9, by rw [k10.length]; exact hj, ?_⟩
                  have g3 := g2.rel.updOwn (o := .lst (ws2.set j vz)) hi2 k1 (s' := .lst p2 (ds2.set j z)) (by cases p2 <;> rfl) (by cases p2 <;> rfl) ⟨k8, _, upd_same, k10.set rz j⟩
                  have g := (g1.trans g2).trans g3
                  exact q σ G2 _ (r.go g) g.exG
                · cases hf2
              · cases h5
            · cases h5
          · cases hg2
        | _ => cases hg2
      · cases h2
    · cases h2
  · cases ee
theorem ds_augS {op : Operator} {f : Dt → Dt → Option Dt} {t : TIp} (i : Nat) {me mi : M Dt} {ei : Expr} {ti : TE} {spos : Pos} (ho : PIp X op t) (so : SimIp f t) (h : DE X e te me) (hi : DE X ei ti mi) (hN : X.N[i]? = some x := by rfl) (hv : Vis X.env.scope x := by first | exact Or.inl rfl | exact Or.inr (Or.inl rfl) | exact Or.inr (Or.inr rfl)) (hd : (x == ("__debug__" : Str)) = false := by decide) (hcd : (x == ("__classdict__" : Str)) = false := by decide)
    (ha : ∀ ov iv new, augStore ei ov iv new = (do holding [new, ov, iv] (setItem ov iv new); release [new, ov, iv] []; pure .next) := by intros; rfl) :
    DS X (.AugAssign (.Subscript (.Name x p) ei spos) op e pos) (tAugS (tVar i) ti te (rGetL X.K) t rSetL) (mAugS i mi f me) := ⟨ps_augS (pe_var hN hv hd hcd) hi.pe get_listN h.pe ho set_list ha, sim_augS so hi.sim h.sim⟩
end
/-! ### several names at once -/
inductive XAll (G H : Hp) : Hp → List V → List SV → Prop
  | nil {H0} : XAll G H H0 [] []
  | imm {H0 v d vs svs} (r : Rp G v d) (t : XAll G H H0 vs svs) : XAll G H H0 (v :: vs) (.imm d :: svs)
  | own {H0 H1 a sv vs svs} (h0 : H0 a = none) (ob : ObjR G H a sv) (h1 : H1 a ≠ none) (le : ∀ x, H0 x ≠ none → H1 x ≠ none) (t : XAll G H H1 vs svs) : XAll G H H0 (.ref a :: vs) (sv :: svs)
theorem XAll.weak {G H : Hp} : ∀ {H1 : Hp} {vs : List V} {svs : List SV}, XAll G H H1 vs svs → ∀ {H0 : Hp}, (∀ x, H0 x ≠ none → H1 x ≠ none) → XAll G H H0 vs svs
  | _, _, _, .nil, _, _ => .nil
  | _, _, _, .imm r t, _, h => .imm r (t.weak h)
  | _, _, _, .own h0 ob h1 le t, H0, h => .own (Classical.byContradiction fun c => h _ c h0) ob h1 (fun x q => le x (h x q)) t
def mXe (me : M Dt) : M SV := bnd me fun d => ret (.imm d)
def mXs : List (M SV) → M (List SV)
  | [] => ret []
  | m :: ms => bnd m fun s => bnd (mXs ms) fun ss => ret (s :: ss)
def SimXs (ms : List (M SV)) (t : TA) : Prop := ∀ ρ svs ρ' σ G H (Q : List V → Hp → Prop), mXs ms ρ = some (svs, ρ') → Rel ρ σ G H → (∀ vs G' H', Go ρ σ G H ρ' G' H' → XAll G' H' H vs svs → Q vs H') → t σ H Q
structure DXs (X : Cx) (es : List Expr) (t : TA) (ms : List (M SV)) : Prop where
  pa : PA X es t
  sim : SimXs ms t
section
variable {X : Cx} {a : Expr} {ta : TE} {es : List Expr} {t : TA} {ms : List (M SV)} {pos : Pos}
theorem dx_nil : DXs X [] tNil [] := ⟨pa_nil, fun ρ d ρ' σ G H Q e rl q => by
  obtain ⟨rfl, rfl⟩ := ret_some e
  exact q [] G H (Go.refl rl) .nil⟩
theorem dx_val {ma : M Dt} (ha : DE X a ta ma) (hr : DXs X es t ms) (hs : starEach (a :: es) X.env = (false, eval a X.env) :: starEach es X.env := by rfl) : DXs X (a :: es) (tCons ta t) (mXe ma :: ms) :=
  ⟨pa_cons ha.pe hr.pa hs, fun ρ d ρ' σ G H Q e rl q => by
    obtain ⟨x, ρ1, h1, h⟩ := bnd_some e
    obtain ⟨xs, ρ2, h2, h3⟩ := bnd_some h
    obtain ⟨rfl, rfl⟩ := ret_some h3
    obtain ⟨d, ρ3, h4, h5⟩ := bnd_some h1
    obtain ⟨rfl, rfl⟩ := ret_some h5
    refine ha.sim ρ d ρ1 σ G H _ h4 rl fun v G1 H1 g1 b1 => hr.sim ρ1 xs _ σ G1 H1 _ h2 g1.rel fun vs G2 H2 g2 b2 => ?_
    exact q _ G2 H2 (g1.trans g2) (.imm (Rp.ex g2.exG _ b1) (b2.weak g1.stp.live))⟩
theorem dx_new {ma : M SV} (ha : DN X a ta ma) (hr : DXs X es t ms) (hs : starEach (a :: es) X.env = (false, eval a X.env) :: starEach es X.env := by rfl) : DXs X (a :: es) (tCons ta t) (ma :: ms) :=
  ⟨pa_cons ha.pe hr.pa hs, fun ρ d ρ' σ G H Q e rl q => by
    obtain ⟨x, ρ1, h1, h⟩ := bnd_some e
    obtain ⟨xs, ρ2, h2, h3⟩ := bnd_some h
    obtain ⟨rfl, rfl⟩ := ret_some h3
    refine ha.sim ρ x ρ1 σ G H _ h1 rl fun c G1 H1 g1 h0 ob => hr.sim ρ1 xs _ σ G1 H1 _ h2 g1.rel fun vs G2 H2 g2 b2 => ?_
    have th := ob.there
    have ob2 := ob.move g2.exG (g2.stp.new c th.1 th.2) fun o ho => g2.stp.fr c o ho fun ow => g1.ownNe (own_same (SameK.refl _) ow) h0 rfl
    exact q _ G2 H2 (g1.trans g2) (.own h0 ob2 th.2 g1.stp.live b2)⟩
/-- slot after slot -/
def putS (i : Nat) (sv : SV) (ρ : En) : Option En := match ρ[i]? with
  | some s0 => if isPin s0 then none else some (ρ.set i sv)
  | none => none
def putSs : List Nat → List SV → En → Option En
  | [], [], ρ => some ρ
  | i :: is, s :: ss, ρ => match putS i s ρ with
    | some ρ1 => putSs is ss ρ1
    | none => none
  | _, _, _ => none
def setAll : List Nat → List V → L2.St → L2.St
  | i :: is, v :: vs, σ => setAll is vs (σ.set i (some v))
  | _, _, σ => σ
theorem own_put {ρ : En} {σ : L2.St} {i : Nat} {sv : SV} {v : V} {b : Addr} (o : Own (ρ.set i sv) (σ.set i (some v)) b) : (isOwn sv = true ∧ v = .ref b) ∨ Own ρ σ b := by
  obtain ⟨j, o⟩ := o
  by_cases c : j = i
  · subst c
    obtain ⟨⟨s, h1, h2⟩, h3⟩ := o
    by_cases c : j < ρ.length
    · rw [List.getElem?_set_self c] at h1
      cases h1
      by_cases c2 : j < σ.length
      · rw [List.getElem?_set_self c2] at h3
        cases h3
        exact .inl ⟨h2, rfl⟩
      · rw [List.getElem?_eq_none (by simpa using c2)] at h3; cases h3
    · rw [List.getElem?_eq_none (by simpa using c)] at h1; cases h1
  · exact .inr ⟨j, ownAt_set o c⟩
theorem RS.putAll {E : Ent} {G H : Hp} : ∀ {is : List Nat} {svs : List SV} {vs : List V} {H0 : Hp} {ρ ρ' : En} {σ : L2.St}, RS E ρ σ G H → putSs is svs ρ = some ρ' → XAll G H H0 vs svs → (∀ x, Own ρ σ x → H0 x ≠ none) → (∀ x, H0 x = none → E.H0 x = none) → RS E ρ' (setAll is vs σ) G H
  | [], [], _, _, _, _, _, r, h, x, _, _ => by cases h; cases x; exact r
  | [], _ :: _, _, _, _, _, _, _, h, _, _, _ => nomatch h
  | _ :: _, [], _, _, _, _, _, _, h, _, _, _ => nomatch h
  | i :: is, s :: ss, _, H0, ρ, ρ', σ, r, h, x, k1, k2 => by
    unfold putSs at h
    split at h
    · rename_i ρ1 e1
      unfold putS at e1
      split at e1
      · rename_i s0 hi
        split at e1
        · cases e1
        · rename_i c
          cases e1
          cases x with
          | imm rp t =>
            rename_i v d vs
            have e : mgN i d ρ = some (ρ.set i (.imm d)) := by unfold mgN; rw [hi]; simp [c]
            have r1 : RS E (ρ.set i (.imm d)) (σ.set i (some v)) G H := sim_gName d ρ _ σ v G H (fun σ' H' => σ' = σ.set i (some v) → H' = H → RS E (ρ.set i (.imm d)) σ' G H) e r.rel rp (fun σ2 rl t2 _ _ => r.tg rl t2) rfl rfl
            refine RS.putAll (is := is) (H0 := H0) r1 h t (fun y o => ?_) k2
            rcases own_put o with ⟨q, _⟩ | q
            · cases q
            · exact k1 y q
          | own h0 ob h1 le t =>
            rename_i H1 a vs
            have r1 := r.new ob (fun o => k1 a o h0) (k2 a h0) hi (by simpa using c)
            refine RS.putAll (is := is) (H0 := H1) r1 h t (fun y o => ?_) fun y q => k2 y (Classical.byContradiction fun c => le y c q)
            rcases own_put o with ⟨_, q⟩ | q
            · cases q; exact h1
            · exact le y (k1 y q)
      · cases e1
    · cases h
def mPar (is : List Nat) (ms : List (M SV)) : MS := bnd (mXs ms) fun ss => fun ρ => match putSs is ss ρ with
  | some ρ1 => some (.nx, ρ1)
  | none => none
theorem mXs_len : ∀ {ms : List (M SV)} {ρ : En} {ss : List SV} {ρ' : En}, mXs ms ρ = some (ss, ρ') → ss.length = ms.length
  | [], _, _, _, h => by obtain ⟨rfl, _⟩ := ret_some h; rfl
  | _ :: _, _, _, _, h => by
    obtain ⟨x, ρ1, h1, h⟩ := bnd_some h
    obtain ⟨xs, ρ2, h2, h3⟩ := bnd_some h
    obtain ⟨rfl, _⟩ := ret_some h3
    simp [mXs_len h2]
theorem XAll.length {G H : Hp} : ∀ {H0 : Hp} {vs : List V} {svs : List SV}, XAll G H H0 vs svs → vs.length = svs.length
  | _, _, _, .nil => rfl
  | _, _, _, .imm _ t => by simp [t.length]
  | _, _, _, .own _ _ _ _ t => by simp [t.length]
theorem sim_par {is : List Nat} (s : SimXs ms t) {E : Ent} {ρ : En} {o : Out} {ρ' : En} {σ : L2.St} {G H : Hp} {D : Ends} (ee : mPar is ms ρ = some (o, ρ')) (r : RS E ρ σ G H) (q : ∀ σ' G' H', RS E ρ' σ' G' H' → Ex G G' → OutR E D σ' G' H' o)
    (Q : List V → Hp → Prop) (k : ∀ vs H1, vs.length = ms.length → D.nx (setAll is vs σ) H1 → Q vs H1) : t σ H Q := by
  obtain ⟨ss, ρ1, h1, h2⟩ := bnd_some ee
  split at h2
  · rename_i ρ2 e2
    cases h2
    refine s ρ ss ρ1 σ G H _ h1 r.rel fun vs G1 H1 g1 xs => k vs H1 (by rw [xs.length, mXs_len h1]) (q _ G1 H1 (RS.putAll (r.go g1) e2 xs (fun x o => g1.ownOld o) fun x h => r.stp.back h) g1.exG)
  · cases h2
theorem ds_par2 (i j : Nat) {x y : Str} {b : Expr} {px py pt : Pos} {kt k2 pt2} (hc : X.calm = true) (hN : X.N.Nodup) (h : DXs X [a, b] t ms) (hl : ms.length = 2 := by rfl) (hi : X.N[i]? = some x := by rfl) (hj : X.N[j]? = some y := by rfl) (hij : i ≠ j := by decide)
    (hx : X.env.scope.names.lookup x = some .local := by rfl) (hy : X.env.scope.names.lookup y = some .local := by rfl)
    (hw : swappedStores [.Tuple [.Name x px, .Name y py] kt pt] (.Tuple [a, b] k2 pt2) X.env = pure (some [x, y]) := by rfl)
    (hs : swapsWithSole [.Tuple [.Name x px, .Name y py] kt pt] (.Tuple [a, b] k2 pt2) pos.line X.env = pure false := by rfl) :
    DS X (.Assign [.Tuple [.Name x px, .Name y py] kt pt] (.Tuple [a, b] k2 pt2) pos) (tPar i j t) (mPar [i, j] ms) := by
  refine ⟨ps_par hc hN hi hj hij hx hy h.pa hw hs, fun E ρ o ρ' σ G H D ee r q => sim_par h.sim ee r q _ fun vs H1 e k => ?_⟩
  rw [hl] at e
  match vs, e with
  | [v, w], _ => exact ⟨v, w, rfl, k⟩
theorem ds_par3 (i j l : Nat) {x y z : Str} {b c : Expr} {px py pz pt : Pos} {kt k2 pt2} (hc : X.calm = true) (hN : X.N.Nodup) (h : DXs X [a, b, c] t ms) (hlen : ms.length = 3 := by rfl) (hi : X.N[i]? = some x := by rfl) (hj : X.N[j]? = some y := by rfl) (hl : X.N[l]? = some z := by rfl) (hij : i ≠ j := by decide) (hil : i ≠ l := by decide) (hjl : j ≠ l := by decide)
    (hx : X.env.scope.names.lookup x = some .local := by rfl) (hy : X.env.scope.names.lookup y = some .local := by rfl) (hz : X.env.scope.names.lookup z = some .local := by rfl)
    (hw : swappedStores [.Tuple [.Name x px, .Name y py, .Name z pz] kt pt] (.Tuple [a, b, c] k2 pt2) X.env = pure (some [x, y, z]) := by rfl)
    (hs : swapsWithSole [.Tuple [.Name x px, .Name y py, .Name z pz] kt pt] (.Tuple [a, b, c] k2 pt2) pos.line X.env = pure false := by rfl) :
    DS X (.Assign [.Tuple [.Name x px, .Name y py, .Name z pz] kt pt] (.Tuple [a, b, c] k2 pt2) pos) (tPar3 i j l t) (mPar [i, j, l] ms) := by
  refine ⟨ps_par3 hc hN hi hj hl hij hil hjl hx hy hz h.pa hw hs, fun E ρ o ρ' σ G H D ee r q => sim_par h.sim ee r q _ fun vs H1 e k => ?_⟩
  rw [hlen] at e
  match vs, e with
  | [u, v, w], _ => exact ⟨u, v, w, rfl, k⟩
end
end DL
end
section
set_option maxRecDepth 100000
set_option maxHeartbeats 4000000
/-! DL11: texts, repr, isinstance, sorted of ints, chains. -/
namespace DL
open PySem L2
section
variable {X : Cx} {K : PySem.W.Frag} {e a b c o : Expr} {te ta tb tc to : TE} {p pos apos cpos tpos : Pos}
/-! ### repr of a list, a tuple -/
def dRepr : Dt → Option Dt
  | .list ds => if (PyData.list ds).showable && decide ((PyData.list ds).shown.length ≤ LIM) && SeqAt.shaped (.list ds) then some (.str (PyData.list ds).shown) else none
  | .tuple ds => if (PyData.tuple ds).showable && decide ((PyData.tuple ds).shown.length ≤ LIM) && SeqAt.shaped (.tuple ds) then some (.str (PyData.tuple ds).shown) else none
  | _ => none
def rRepr (K : PySem.W.Frag) : RC := fun xs H Q => ∃ q d, xs = [.ref q] ∧ Dp K H (.ref q) d ∧ d.showable = true ∧ d.shown.length ≤ LIM ∧ SeqAt.shaped d = true ∧ d.hasDict = false ∧ Q (.str d.shown) H
mutual
theorem noDict : ∀ d : Dt, d.canLay0 = true → d.hasDict = false
  | .none, _ => by simp [PyData.hasDict]
  | .bool _, _ => by simp [PyData.hasDict]
  | .int _, _ => by simp [PyData.hasDict]
  | .str _, _ => by simp [PyData.hasDict]
  | .list ds, h => by rw [PyData.hasDict]; exact noDictAll ds (by simpa [PyData.canLay0] using h)
  | .tuple ds, h => by rw [PyData.hasDict]; exact noDictAll ds (by simpa [PyData.canLay0] using h)
  | .dict _, h => by simp [PyData.canLay0] at h
theorem noDictAll : ∀ ds : List Dt, PyData.canLayAll0 ds = true → PyData.hasDictAll ds = false
  | [], _ => by simp [PyData.hasDictAll]
  | d :: ds, h => by
    simp only [PyData.canLayAll0, Bool.and_eq_true] at h
    rw [PyData.hasDictAll, noDict d h.1, noDictAll ds h.2]; rfl
end
theorem call_repr (hg : X.A.guards = some []) (hu : X.A.units + 66 < cLine) : CallR X (.builtin "repr") (rRepr X.K) := by
  intro pins s σ H xs us Q I r h
  obtain ⟨q, d, rfl, hd, hs, hz, sh, nd, h⟩ := h
  cases r with
  | cons r1 rs =>
    cases rs
    obtain ⟨as, rd⟩ := Dp.reads I d _ _ hd r1
    cases r1
    refine repr_of_reads' rd hs (PySem.PyData.noDict_hsm nd) hg ?_ (fun _ _ h => h) (fun h' u tk hk => ?_) (lim_line hz)
    · have := SeqAt.depth_of_shaped sh
      omega
    · exact ⟨.str _, H, I.kept (h' := h') (t' := tk) hk, ⟨u, rfl⟩, h⟩
theorem simC_repr : SimC dRepr (rRepr K) := fun x z G H v Q e t ex q => by
  have go : ∀ d, x = d → (d.showable && decide (d.shown.length ≤ LIM) && SeqAt.shaped d) = true → z = .str d.shown → (∃ q, v = .ref q) → rRepr K [v] H Q := fun d hx hc hz hv => by
    subst hx hz
    obtain ⟨q0, rfl⟩ := hv
    rw [Bool.and_eq_true, Bool.and_eq_true, decide_eq_true_eq] at hc
    have k := Top.rp t ex
    exact ⟨q0, x, rfl, Rp.dp x (lay_of hc.2) k, hc.1.1, hc.1.2, hc.2, noDict x (lay_of hc.2), q _ G H (Grow.refl ex) (.str _)⟩
  unfold dRepr at e
  split at e
  · split at e
    · rename_i ds c
      cases e
      obtain ⟨q0, vs, rfl, _⟩ := t
      exact go _ rfl c rfl ⟨q0, rfl⟩
    · cases e
  · split at e
    · rename_i ds c
      cases e
      cases t
      exact go _ rfl c rfl ⟨_, rfl⟩
    · cases e
  · cases e

theorem de_repr {K : PySem.W.Frag} {k : Nat} (hr : Rm k X.A) {ma : M BR} (hm : X.mg "repr" = none) (ha : DB X a ta ma) (hg : Gl X "repr" := by rfl) (hs : starEach (a :: []) X.env = (false, eval a X.env) :: starEach [] X.env := by rfl) (hK : X.K = K := by rfl) : DE X (.Call (.Name "repr" p) [a] [] pos) (tCB (rRepr K) (tCons ta tNil)) (mC1 dRepr ma) := by
  subst hK
  exact ⟨pe_callB (call_repr hr.gd (by have := hr.room.un; omega)) hg hm (by decide +kernel) (pa_cons ha.pe pa_nil hs) (he := hs), sim_c1 simC_repr ha.sim⟩
/-! ### ord, isinstance(.., str) -/
def dOrd : Dt → Option Dt
  | .str x => if x.length = 1 then some (.int (x.cps.getD 0 0 : Nat)) else none
  | _ => none
def rOrd : RC := fun xs H Q => ∃ x, xs = [.str x] ∧ x.length = 1 ∧ Q (.int (x.cps.getD 0 0 : Nat)) H
theorem simC_ord : SimC dOrd rOrd := fun x z G H v Q e t ex q => by
  unfold dOrd at e
  split at e
  · split at e
    · rename_i y c
      cases e
      cases t
      exact ⟨y, rfl, c, q _ G H (Grow.refl ex) (.int _)⟩
    · cases e
  · cases e
theorem de_ord {ma : M BR} (hm : X.mg "ord" = none) (ha : DB X a ta ma) (hg : Gl X "ord" := by rfl) (hs : starEach (a :: []) X.env = (false, eval a X.env) :: starEach [] X.env := by rfl) : DE X (.Call (.Name "ord" p) [a] [] pos) (tCB rOrd (tCons ta tNil)) (mC1 dOrd ma) :=
  ⟨pe_callB call_ord hg hm (by decide +kernel) (pa_cons ha.pe pa_nil hs) (he := hs), sim_c1 simC_ord ha.sim⟩
/-- isinstance(x, str), x a text -/
def dIsStr : Dt → Option Dt
  | .str _ => some (.bool true)
  | _ => none
def mIsStr (m : M Dt) : M Dt := bnd m fun d => lft (dIsStr d)
theorem de_isStr {K : PySem.W.Frag} {ma : M Dt} {p2 : Pos} (hm : X.mg "isinstance" = none) (hms : X.mg "str" = none) (ha : DE X a ta ma) (hg : Gl X "isinstance" := by rfl) (hg2 : Gl X "str" := by rfl) (hs : starEach (a :: [.Name "str" p2]) X.env = (false, eval a X.env) :: starEach [.Name "str" p2] X.env := by rfl) (hs2 : starEach [.Name "str" p2] X.env = (false, eval (.Name "str" p2) X.env) :: starEach [] X.env := by rfl) (hK : X.K = K := by rfl) :
    DE X (.Call (.Name "isinstance" p) [a, .Name "str" p2] [] pos) (tCB (rIsi K) (tCons ta (tCons (tC (.ty "str")) tNil))) (mIsStr ma) := by
  subst hK
  refine ⟨pe_callB call_isi hg hm (by decide +kernel) (pa_cons ha.pe (pa_cons (pe_bltn (v := .ty "str") hg2 hms (by decide +kernel) rfl) pa_nil hs2) hs) (he := hs) (hpl := by rw [hs2]; rfl), fun ρ d ρ' σ G H Q ee rl q => ?_⟩
  obtain ⟨x, ρ1, h1, h2⟩ := bnd_some ee
  obtain ⟨h3, rfl⟩ := lft_some h2
  refine ha.sim ρ x _ σ G H _ h1 rl fun v G1 H1 g1 rv => ?_
  unfold dIsStr at h3
  split at h3
  · cases h3
    cases rv
    exact ⟨_, _, _, _, true, rfl, .ty "str", .base (.str _), by rfl, q _ G1 H1 g1 (.bl true)⟩
  · cases h3
/-! ### methods of texts -/
def mS1 (f : Str → Dt → Option Dt) (mo : M Dt) (me : M BR) : M Dt := bnd mo fun x => match x with
  | .str z => bnd me fun y => fun ρ => match brD ρ y with
    | some d => lft (f z d) ρ
    | none => none
  | _ => lft none
def SimM1 (f : Str → Dt → Option Dt) (r : V → List V → Hp → VK → Prop) : Prop := ∀ z y d G H vy (Q : VK), f z y = some d → Top G H vy y → Ex G H → (∀ v, Rp G v d → Q v H) → r (.str z) [vy] H Q
theorem sim_s1 {f : Str → Dt → Option Dt} {r : V → List V → Hp → VK → Prop} {mo : M Dt} {me : M BR} (o : SimM1 f r) (so : SimE mo to) (se : SimB me te) : SimE (mS1 f mo me) (tM1 r to te) := fun ρ d ρ' σ G H Q ee rl q => by
  obtain ⟨x, ρ1, h1, h2⟩ := bnd_some ee
  split at h2
  · rename_i z
    obtain ⟨y, ρ2, h3, h4⟩ := bnd_some h2
    split at h4
    · rename_i dy hy
      obtain ⟨h5, rfl⟩ := lft_some h4
      refine so ρ _ ρ1 σ G H _ h1 rl fun v G1 H1 g1 rv => ?_
      cases rv
      exact ⟨⟨_, rfl⟩, se ρ1 y _ σ G1 H1 _ h3 g1.rel fun vy G2 H2 g2 b2 => o z dy d G2 H2 vy _ h5 (brTop g2.rel hy b2) g2.ex fun v rv => q v G2 H2 (g1.trans g2) rv⟩
    · cases h4
  · cases h2
def dStarts (z : Str) (y : Dt) : Option Dt := match y with
  | .str b => some (.bool (PySem.Txt.startswith z b))
  | _ => none
def rStarts : V → List V → Hp → VK → Prop := fun x xs H Q => ∃ a b, x = .str a ∧ xs = [.str b] ∧ Q (.bl (PySem.Txt.startswith a b)) H
theorem de_startswith {mo : M Dt} {me : M BR} (ho : DE X o to mo) (he : DB X e te me) (hs : starEach [e] X.env = [(false, eval e X.env)] := by rfl) (hbase : attributeBase o "startswith" X.env (eval o X.env) = eval o X.env := by rfl) (hline : (apos.endLine == pos.line) = true := by rfl) :
    DE X (.Call (.Attribute o "startswith" apos) [e] [] pos) (tM1 rStarts to te) (mS1 dStarts mo me) := ⟨pe_m1 PySem.F.slot_str_startswith PySem.F.type_str_startswith mt_startswith ho.pe he.pe hs hbase hline, sim_s1 (fun z y d G H vy Q ee t ex q => by
  unfold dStarts at ee
  split at ee
  · cases ee; cases t; exact ⟨z, _, rfl, rfl, q _ (.bl _)⟩
  · cases ee) ho.sim he.sim⟩
def strsD : List Dt → Option (List Str)
  | [] => some []
  | .str i :: r => (strsD r).map (i :: ·)
  | _ :: _ => none
theorem strsD_rp {G : Hp} : ∀ {vs : List V} {ds : List Dt} {ns : List Str}, RpAll G vs ds → strsD ds = some ns → vs = ns.map V.str
  | _, _, _, .nil, h => by cases h; rfl
  | _, d :: ds, _, .cons h t, e => by
    cases d <;> try (cases e; done)
    rename_i i
    have e : (strsD ds).map (i :: ·) = some _ := e
    cases q : strsD ds with
    | none => rw [q] at e; cases e
    | some ns =>
      rw [q] at e
      cases e
      cases h
      rw [strsD_rp t q]
      rfl
def dJoin (z : Str) (y : Dt) : Option Dt := match (seqD y).bind strsD with
  | some ys => if (ys.map (·.length)).sum + ys.length * z.length ≤ LIM then some (.str (PySem.Txt.join z ys)) else none
  | none => none
def rJoin (K : PySem.W.Frag) : V → List V → Hp → VK → Prop := fun x xs H Q => ∃ a p, ∃ ys : List Str, x = .str a ∧ xs = [.ref p] ∧ (SqL K H p (ys.map V.str) ∨ SqT K H p (ys.map V.str)) ∧
      (ys.map (·.length)).sum + ys.length * a.length ≤ 16777216 ∧ Q (.str (PySem.Txt.join a ys)) H
theorem de_join {K : PySem.W.Frag} {mo : M Dt} {me : M BR} (ho : DE X o to mo) (he : DB X e te me) (hs : starEach [e] X.env = [(false, eval e X.env)] := by rfl) (hbase : attributeBase o "join" X.env (eval o X.env) = eval o X.env := by rfl) (hline : (apos.endLine == pos.line) = true := by rfl) (hK : X.K = K := by rfl) :
    DE X (.Call (.Attribute o "join" apos) [e] [] pos) (tM1 (rJoin K) to te) (mS1 dJoin mo me) := by
  subst hK
  exact ⟨pe_join ho.pe he.pe hs hbase hline, sim_s1 (fun z y d G H vy Q ee t ex q => by
  unfold dJoin at ee
  split at ee
  · rename_i ys hy
    split at ee
    · rename_i c
      cases ee
      have c2 : (ys.map (·.length)).sum + ys.length * z.length ≤ 16777216 := by unfold LIM at c; omega
      cases y with
      | list ds =>
        obtain ⟨a, vs, rfl, h1, h2⟩ := t
        have e2 : strsD ds = some ys := hy
        rw [strsD_rp h2 e2] at h1
        exact ⟨z, a, ys, rfl, rfl, .inl (SqL.of h1), c2, q _ (.str _)⟩
      | tuple ds =>
        have e2 : strsD ds = some ys := hy
        cases t with
        | tup h1 h2 =>
          rw [strsD_rp h2 e2] at h1
          exact ⟨z, _, ys, rfl, rfl, .inr (SqT.of (ex _ _ h1)), c2, q _ (.str _)⟩
      | _ => cases hy
    · cases ee
  · cases ee) ho.sim he.sim⟩
/-- a new list of texts -/
def strL (ys : List Str) : SV := .lst false (ys.map fun y => .str y)
theorem strL_rp {G : Hp} : ∀ ys : List Str, RpAll G (ys.map V.str) (ys.map fun y => .str y)
  | [] => .nil
  | y :: ys => .cons (.str y) (strL_rp ys)
def mS1N (f : Str → Dt → Option (List Str)) (mo : M Dt) (me : M Dt) : M SV := bnd mo fun x => match x with
  | .str z => bnd me fun y => bnd (lft (f z y)) fun ys => ret (strL ys)
  | _ => lft none
def dSplit (z : Str) (y : Dt) : Option (List Str) := match y with
  | .str b => if (b.length == 0) = false ∧ z.length + 2 ≤ LIM then some (PySem.Txt.split z b) else none
  | _ => none
def rSplit : V → List V → Hp → VK → Prop := fun x xs H Q => ∃ a b, x = .str a ∧ xs = [.str b] ∧ (b.length == 0) = false ∧ a.length + 2 ≤ sizeLine ∧ rNewStrs (PySem.Txt.split a b) H Q
theorem new_strs {ρ ρ' : En} {σ : L2.St} {G H G1 H1 : Hp} {ys : List Str} {Q : VK} (g : Go ρ σ G H ρ' G1 H1) (q : ∀ a G' H', Go ρ σ G H ρ' G' H' → H a = none → ObjR G' H' a (strL ys) → Q (.ref a) H') : rNewStrs ys H1 Q := fun p hp => by
  exact q p G1 _ (g.grow (Grow.unknown g.ex hp)) (g.stp.back hp) ⟨g.ex.free hp, _, upd_same, strL_rp ys⟩
theorem dn_split {mo me : M Dt} (ho : DE X o to mo) (he : DE X e te me) (hs : starEach [e] X.env = [(false, eval e X.env)] := by rfl) (hbase : attributeBase o "split" X.env (eval o X.env) = eval o X.env := by rfl) (hline : (apos.endLine == pos.line) = true := by rfl) :
    DN X (.Call (.Attribute o "split" apos) [e] [] pos) (tM1 rSplit to te) (mS1N dSplit mo me) := ⟨pe_m1 PySem.F.slot_str_split PySem.F.type_str_split mt_split ho.pe he.pe hs hbase hline, fun ρ d ρ' σ G H Q ee rl q => by
  obtain ⟨x, ρ1, h1, h2⟩ := bnd_some ee
  split at h2
  · rename_i z
    obtain ⟨y, ρ2, h3, h4⟩ := bnd_some h2
    obtain ⟨ys, ρ3, h5, h6⟩ := bnd_some h4
    obtain ⟨hy, e5⟩ := lft_some h5
    obtain ⟨e6, e7⟩ := ret_some h6
    cases e5
    cases e6
    cases e7
    refine ho.sim ρ _ ρ1 σ G H _ h1 rl fun v G1 H1 g1 rv => ?_
    cases rv
    refine ⟨⟨_, rfl⟩, he.sim ρ1 y _ σ G1 H1 _ h3 g1.rel fun vy G2 H2 g2 b2 => ?_⟩
    unfold dSplit at hy
    split at hy
    · split at hy
      · rename_i c
        cases hy
        cases b2
        exact ⟨z, _, rfl, rfl, c.1, lim_line c.2, new_strs (g1.trans g2) q⟩
      · cases hy
    · cases hy
  · cases h2⟩
/-- x.split(sep, k) -/
def mS2N (f : Str → Dt → Dt → Option (List Str)) (mo me me2 : M Dt) : M SV := bnd mo fun x => match x with
  | .str z => bnd me fun y => bnd me2 fun y2 => bnd (lft (f z y y2)) fun ys => ret (strL ys)
  | _ => lft none
def dSplit2 (z : Str) (y y2 : Dt) : Option (List Str) := match y, y2 with
  | .str b, .int k => if (b.length == 0) = false ∧ -(2 ^ 63) ≤ k ∧ k < 2 ^ 63 ∧ z.length + 2 ≤ LIM then some (PySem.Txt.splitMax z b k) else none
  | _, _ => none
def rSplit2 : V → List V → Hp → VK → Prop := fun x xs H Q => ∃ (a b : Str) (k : Int), x = .str a ∧ xs = [.str b, .int k] ∧ (b.length == 0) = false ∧ -(2 ^ 63) ≤ k ∧ k < 2 ^ 63 ∧ a.length + 2 ≤ sizeLine ∧ rNewStrs (PySem.Txt.splitMax a b k) H Q
theorem dn_split2 {K : PySem.W.Frag} {e2 : Expr} {te2 : TE} {mo me me2 : M Dt} (ho : DE X o to mo) (he : DE X e te me) (he2 : DE X e2 te2 me2) (hb : attributeBase o "split" X.env (eval o X.env) = eval o X.env := by rfl)
    (hf : Few X [e, e2] cpos := by rfl) (hl : (apos.endLine == cpos.line) = true := by rfl) (hs : starEach [e, e2] X.env = (false, eval e X.env) :: starEach [e2] X.env := by rfl)
    (hs2 : starEach [e2] X.env = (false, eval e2 X.env) :: starEach [] X.env := by rfl) (hp : (backTo cpos (starEach [e2] X.env)).any (·.1) = false := by rfl) (hK : X.K = K := by rfl) :
    DN X (.Call (.Attribute o "split" apos) [e, e2] [] cpos) (tBM K "str" rSplit2 to (tCons te (tCons te2 tNil))) (mS2N dSplit2 mo me me2) := by
  subst hK
  exact ⟨pe_bm PySem.F.plainAttrs_str PySem.F.slot_str_split PySem.F.type_str_split mt_splitMax ho.pe (pa_cons he.pe (pa_cons he2.pe pa_nil hs2) hs) hb hf hl hs hp, fun ρ d ρ' σ G H Q ee rl q => by
  obtain ⟨x, ρ1, h1, h2⟩ := bnd_some ee
  split at h2
  · rename_i z
    obtain ⟨y, ρ2, h3, h4⟩ := bnd_some h2
    obtain ⟨y2, ρ3, h5, h6⟩ := bnd_some h4
    obtain ⟨ys, ρ4, h7, h8⟩ := bnd_some h6
    obtain ⟨hy, e5⟩ := lft_some h7
    obtain ⟨e6, e7⟩ := ret_some h8
    cases e5
    cases e6
    cases e7
    refine ho.sim ρ _ ρ1 σ G H _ h1 rl fun v G1 H1 g1 rv => ?_
    cases rv
    refine ⟨rfl, he.sim ρ1 y _ σ G1 H1 _ h3 g1.rel fun vy G2 H2 g2 b2 => he2.sim ρ2 y2 _ σ G2 H2 _ h5 g2.rel fun vy2 G3 H3 g3 b3 => ?_⟩
    unfold dSplit2 at hy
    split at hy
    · split at hy
      · rename_i c
        cases hy
        cases b2
        cases b3
        exact ⟨z, _, _, rfl, rfl, c.1, c.2.1, c.2.2.1, lim_line c.2.2.2, new_strs ((g1.trans g2).trans g3) q⟩
      · cases hy
    · cases hy
  · cases h2⟩
/-! ### a text's signs -/
def signD (x : Str) : List Dt := x.cps.toList.map fun c => .str ⟨#[c]⟩
def mSigns (m : M Dt) : M (List Dt × Gd) := bnd m fun d => match d with
  | .str x => ret (signD x, [])
  | _ => lft none
theorem walks_str {G : Hp} {x : Str} : Walks (Its x) G [] (signD x) := fun G2 H2 x1 x2 _ j => by
  have e : (signD x).length = x.cps.size := by simp [signD]
  refine ⟨fun d hd => ?_, fun hj => Nat.le_of_eq (by rw [hj, e])⟩
  have hlt := (List.getElem?_eq_some_iff.mp hd).1
  rw [e] at hlt
  refine ⟨hlt, fun v H3 y => ?_⟩
  obtain ⟨rfl, c, hc, rfl⟩ := y
  have hd2 : (signD x)[j]? = some (.str ⟨#[c]⟩) := by
    unfold signD
    rw [List.getElem?_map, Array.getElem?_toList, hc]
    rfl
  rw [hd] at hd2
  cases hd2
  exact ⟨G2, Grow.refl x2, .str _⟩
theorem di_str {tg : Expr} {m : M Dt} (h : DE X e te m) : DI X tg e (iStr te) (mSigns m) := ⟨pi_str h.pe, fun ρ ds g ρ' σ G H R ee rl q => by
  obtain ⟨d, ρ1, h1, h2⟩ := bnd_some ee
  split at h2
  · rename_i x
    obtain ⟨e0, rfl⟩ := ret_some h2
    cases e0
    refine h.sim ρ _ _ σ G H _ h1 rl fun v G1 H1 g1 r1 => ?_
    cases r1
    exact ⟨x, rfl, q _ [] G1 H1 g1 .nil walks_str⟩
  · cases h2⟩
/-! ### x <= y <= z -/
def strLe (x y : Str) : Bool := !decide (y.cps.toList < x.cps.toList)
def dLeS : Dt → Dt → Option Dt
  | .str a, .str b => some (.bool (strLe a b))
  | _, _ => none
def rLeS : R2 := fun x y H Q => ∃ i j, x = .str i ∧ y = .str j ∧ Q (.bl (!decide (j.cps.toList < i.cps.toList))) H
theorem simO_leS : SimO dLeS rLeS := fun x y z G H vx vy Q e tx ty ex q => by
  unfold dLeS at e
  split at e
  · cases e; cases tx; cases ty; exact ⟨_, _, rfl, rfl, q _ G H (Grow.refl ex) (.bl _)⟩
  · cases e
def mChain (f f' : Dt → Dt → Option Dt) (a b c : M Dt) : M Dt := bnd a fun x => bnd b fun y => bnd (lft (f x y)) fun k => match k with
  | .bool true => bnd c fun z => lft (f' y z)
  | .bool false => ret (.bool false)
  | _ => lft none
theorem sim_chain {f f' : Dt → Dt → Option Dt} {r r' : R2} {ma mb mc : M Dt} (o : SimO f r) (o' : SimO f' r') (sa : SimE ma ta) (sb : SimE mb tb) (sc : SimE mc tc) : SimE (mChain f f' ma mb mc) (tChain r r' ta tb tc) := fun ρ d ρ' σ G H Q e rl q => by
  obtain ⟨x, ρ1, h1, h⟩ := bnd_some e
  obtain ⟨y, ρ2, h2, h⟩ := bnd_some h
  obtain ⟨k, ρ3, h3, h⟩ := bnd_some h
  obtain ⟨f3, e3⟩ := lft_some h3
  cases e3
  refine sa ρ x ρ1 σ G H _ h1 rl fun v G1 H1 g1 rv => sb ρ1 y ρ2 σ G1 H1 _ h2 g1.rel fun u G2 H2 g2 ru => ?_
  refine o x y k G2 H2 v u _ f3 (Rp.top (Rp.ex g2.exG _ rv) g2.ex) (Rp.top ru g2.ex) g2.ex fun w G3 H3 gw rw' => ?_
  have g3 := (g1.trans g2).grow gw
  split at h
  · obtain ⟨z, ρ4, h4, h5⟩ := bnd_some h
    obtain ⟨f5, e5⟩ := lft_some h5
    cases e5
    cases rw'
    refine ⟨true, rfl, ?_⟩
    rw [if_pos rfl]
    refine sc ρ2 z ρ' σ G3 H3 _ h4 g3.rel fun t G4 H4 g4 rt => ?_
    refine o' y z d G4 H4 u t _ f5 (Rp.top (Rp.ex (gw.exG.trans g4.exG) _ ru) g4.ex) (Rp.top rt g4.ex) g4.ex fun w2 G5 H5 gw2 rw2 => q w2 G5 H5 ((g3.trans g4).grow gw2) rw2
  · obtain ⟨rfl, rfl⟩ := ret_some h
    cases rw'
    refine ⟨false, rfl, ?_⟩
    rw [if_neg (by decide)]
    exact q _ G3 H3 g3 (.bl false)
  · cases h
theorem de_leles {ma mb mc : M Dt} (ha : DE X a ta ma) (hb : DE X b tb mb) (hc : DE X c tc mc) (hm : lastMarks [.LtE, .LtE] [b, c] = false := by with_unfolding_all rfl) : DE X (.Compare a [.LtE, .LtE] [b, c] pos) (tChain rLeS rLeS ta tb tc) (mChain dLeS dLeS ma mb mc) :=
  ⟨pe_chain op_le_str op_le_str ha.pe hb.pe hc.pe hm, sim_chain simO_leS simO_leS ha.sim hb.sim hc.sim⟩
theorem dt_leles {ma mb mc : M Dt} (ha : DE X a ta ma) (hb : DE X b tb mb) (hc : DE X c tc mc) (hm : lastMarks [.LtE, .LtE] [b, c] = false := by with_unfolding_all rfl) : DT X (.Compare a [.LtE, .LtE] [b, c] pos) (tB (tChain rLeS rLeS ta tb tc)) (mTst (mChain dLeS dLeS ma mb mc)) :=
  ⟨pt_chain op_le_str op_le_str ha.pe hb.pe hc.pe hm, sim_tst (sim_chain simO_leS simO_leS ha.sim hb.sim hc.sim)⟩
theorem de_lele {ma mb mc : M Dt} (ha : DE X a ta ma) (hb : DE X b tb mb) (hc : DE X c tc mc) (hm : lastMarks [.LtE, .LtE] [b, c] = false := by with_unfolding_all rfl) : DE X (.Compare a [.LtE, .LtE] [b, c] pos) (tChain (rI0 fun i j => .bl (decide (i ≤ j))) (rI0 fun i j => .bl (decide (i ≤ j))) ta tb tc) (mChain dLe dLe ma mb mc) :=
  ⟨pe_chain op_le op_le ha.pe hb.pe hc.pe hm, sim_chain simO_B0 simO_B0 ha.sim hb.sim hc.sim⟩
theorem dt_lele {ma mb mc : M Dt} (ha : DE X a ta ma) (hb : DE X b tb mb) (hc : DE X c tc mc) (hm : lastMarks [.LtE, .LtE] [b, c] = false := by with_unfolding_all rfl) : DT X (.Compare a [.LtE, .LtE] [b, c] pos) (tB (tChain (rI0 fun i j => .bl (decide (i ≤ j))) (rI0 fun i j => .bl (decide (i ≤ j))) ta tb tc)) (mTst (mChain dLe dLe ma mb mc)) :=
  ⟨pt_chain op_le op_le ha.pe hb.pe hc.pe hm, sim_tst (sim_chain simO_B0 simO_B0 ha.sim hb.sim hc.sim)⟩
/-! ### sorted of ints -/
def insI (x : Int) : List Int → List Int
  | [] => [x]
  | y :: ys => if x ≤ y then x :: y :: ys else y :: insI x ys
def sortI : List Int → List Int
  | [] => []
  | x :: xs => insI x (sortI xs)
theorem insI_perm (x : Int) : ∀ ys, (insI x ys).Perm (x :: ys)
  | [] => .refl _
  | y :: ys => by
    unfold insI
    split
    · exact .refl _
    · exact ((insI_perm x ys).cons y).trans (.swap x y ys)
theorem sortI_perm : ∀ xs, (sortI xs).Perm xs
  | [] => .refl _
  | x :: xs => (insI_perm x _).trans ((sortI_perm xs).cons x)
theorem insI_sorted (x : Int) : ∀ ys, ys.Pairwise (· ≤ ·) → (insI x ys).Pairwise (· ≤ ·)
  | [], _ => by simp [insI]
  | y :: ys, h => by
    unfold insI
    rw [List.pairwise_cons] at h
    split
    · rename_i c
      refine List.pairwise_cons.mpr ⟨fun z hz => ?_, List.pairwise_cons.mpr h⟩
      rcases List.mem_cons.mp hz with rfl | hz
      · exact c
      · have := h.1 z hz; omega
    · rename_i c
      refine List.pairwise_cons.mpr ⟨fun z hz => ?_, insI_sorted x ys h.2⟩
      rcases List.mem_cons.mp ((insI_perm x ys).mem_iff.mp hz) with rfl | hz
      · omega
      · exact h.1 z hz
theorem sortI_sorted : ∀ xs, (sortI xs).Pairwise (· ≤ ·)
  | [] => .nil
  | x :: xs => insI_sorted x _ (sortI_sorted xs)
theorem sorted_uniq {xs ys : List Int} (p : xs.Perm ys) (h1 : xs.Pairwise (· ≤ ·)) (h2 : ys.Pairwise (· ≤ ·)) : xs = ys :=
  List.Perm.eq_of_pairwise (le := (· ≤ ·)) (fun a b _ _ h h' => Int.le_antisymm h h') h1 h2 p
def dSortI : Dt → Option SV
  | .list ds => (intsD ds).map fun ns => .lst false ((sortI ns).map fun n => .int n)
  | _ => none
theorem ints_rp {G : Hp} : ∀ ns : List Int, RpAll G (ns.map V.int) (ns.map fun n => .int n)
  | [] => .nil
  | n :: ns => .cons (.int n) (ints_rp ns)
theorem simC_sortI : SimCN dSortI (rSortedI K) := fun x z G H v Q e t ex q => by
  unfold dSortI at e
  split at e
  · rename_i ds
    cases e1 : intsD ds with
    | none => rw [e1] at e; cases e
    | some ns =>
      rw [e1] at e
      cases e
      obtain ⟨p, vs, rfl, h1, h2⟩ := t
      rw [intsD_rp h2 e1] at h1
      refine ⟨p, ns, rfl, SqL.of h1, fun ns' a hp hs hn => ?_⟩
      have := sorted_uniq (hp.trans (sortI_perm ns).symm) hs (sortI_sorted ns)
      subst this
      exact q a G _ (Grow.unknown ex hn) hn ⟨ex.free hn, _, upd_same, ints_rp _⟩
  · cases e
theorem dn_sortI {K : PySem.W.Frag} {ma : M BR} (hm : X.mg "sorted" = none) (ha : DB X a ta ma) (hg : Gl X "sorted" := by rfl) (hs : starEach (a :: []) X.env = (false, eval a X.env) :: starEach [] X.env := by rfl) (hK : X.K = K := by rfl) : DN X (.Call (.Name "sorted" p) [a] [] pos) (tCB (rSortedI K) (tCons ta tNil)) (mC1N dSortI ma) := by
  subst hK
  exact ⟨pe_callB cr_sortedI hg hm (by decide +kernel) (pa_cons ha.pe pa_nil hs) (he := hs), sim_c1N simC_sortI ha.sim⟩
/-! ### name = [..] on one line -/
end
section
variable {X : Cx} {i : Nat} {y : Str} {py : Pos} {elt tg iter : Expr} {ifs : List Expr} {scope : Scope} {own : List (Str × Nat)} {pos spos : Pos} {wi : TI} {g : TG} {tt : TT} {te : TE} {is : List Nat} {mi : M (List Dt × Gd)} {mg : MG} {mt : M Bool} {me : M Dt}
theorem ds_setLc (i : Nat) (hc : X.calm = true) (hN : X.N.Nodup) (hi : DI X tg iter wi mi) (ok : blkC X.N X.env.scope scope own = true) (hg : Blk X scope fun Y => DG Y tg is g mg) (ht : Blk X scope fun Y => DTs Y ifs tt mt) (he : Blk X scope fun Y => DE Y elt te me)
    (hsub : ∀ j ∈ is, j ∈ own.map (·.2) := by decide) (hs : ∀ x, foldedSetIterable iter X.env x = pure x := by intro _; rfl) (hy : X.N[i]? = some y := by rfl) (hyl : X.env.scope.names.lookup y = some .local := by rfl)
    (hsw : swapsWith (.ListComp elt [⟨tg, iter, ifs, 0⟩] scope pos) (some (.Name y py)) spos.line X.env = pure true := by exact sw_true rfl rfl rfl rfl) :
    DS X (.Assign [.Name y py] (.ListComp elt [⟨tg, iter, ifs, 0⟩] scope pos) spos) (tAsg (tLc wi g tt te (own.map (·.2))) (gName i)) (mAsgN (mLc mi (own.map (·.2)) mg (mLeaf mt me)) i) :=
  ⟨ps_setLc hc hN hy hyl hsw hi.pi (blkOk_by ok) (fun s H C cl fp => (hg s H C cl fp).pg) (fun s H C cl fp => (ht s H C cl fp).pts) (fun s H C cl fp => (he s H C cl fp).pe) hs, sim_asgN (dn_lc (pos := pos) hc hN hi ok hg ht he hsub hs).sim⟩
theorem ds_setLcF (i : Nat) (hc : X.calm = true) (hN : X.N.Nodup) (hi : DI X tg iter wi mi) (ok : blkC X.N X.env.scope scope own = true) (hg : Blk X scope fun Y => DG Y tg is g mg) (ht : Blk X scope fun Y => DTs Y ifs tt mt) (he : Blk X scope fun Y => DE Y elt te me)
    (hsub : ∀ j ∈ is, j ∈ own.map (·.2) := by decide) (hs : ∀ x, foldedSetIterable iter X.env x = pure x := by intro _; rfl) (hy : X.N[i]? = some y := by rfl) (hyl : X.env.scope.names.lookup y = some .local := by rfl)
    (hsw : swapsWith (.ListComp elt [⟨tg, iter, ifs, 0⟩] scope pos) (some (.Name y py)) spos.line X.env = pure true := by exact sw_true rfl rfl rfl rfl) :
    DS X (.Assign [.Name y py] (.ListComp elt [⟨tg, iter, ifs, 0⟩] scope pos) spos) (tAsg (tLc wi g tt te (own.map (·.2))) (gName i)) (mAsg (mFz (mLc mi (own.map (·.2)) mg (mLeaf mt me))) (mgN i)) :=
  ⟨ps_setLc hc hN hy hyl hsw hi.pi (blkOk_by ok) (fun s H C cl fp => (hg s H C cl fp).pg) (fun s H C cl fp => (ht s H C cl fp).pts) (fun s H C cl fp => (he s H C cl fp).pe) hs, sim_asg (dn_lc (pos := pos) hc hN hi ok hg ht he hsub hs).fz.sim sim_gName⟩
variable {tg1 iter1 : Expr} {ifs1 : List Expr} {vs1 : List Nat} {wi1 : TI} {g1 : TG} {tt1 : TT} {is1 : List Nat} {mi1 : M (List Dt × Gd)} {mg1 : MG} {mt1 : M Bool}
theorem ds_setLc2 (i : Nat) (hc : X.calm = true) (hN : X.N.Nodup) (hi : DI X tg iter wi mi) (ok : blkC X.N X.env.scope scope own = true) (hv : ∀ i ∈ vs1, i ∈ own.map (·.2)) (hg : Blk X scope fun Y => DG Y tg is g mg) (ht : Blk X scope fun Y => DTs Y ifs tt mt)
    (hi1 : Blk X scope fun Y => DI Y tg1 iter1 wi1 mi1) (hg1 : Blk X scope fun Y => DG Y tg1 is1 g1 mg1) (ht1 : Blk X scope fun Y => DTs Y ifs1 tt1 mt1) (he : Blk X scope fun Y => DE Y elt te me)
    (hsub : ∀ j ∈ is, j ∈ own.map (·.2) := by decide) (hsub1 : ∀ j ∈ is1, j ∈ vs1 := by decide) (hs : ∀ x, foldedSetIterable iter X.env x = pure x := by intro _; rfl) (hs1 : ∀ env x, foldedSetIterable iter1 env x = pure x := by intro _ _; rfl) (hy : X.N[i]? = some y := by rfl) (hyl : X.env.scope.names.lookup y = some .local := by rfl)
    (hsw : swapsWith (.ListComp elt [⟨tg, iter, ifs, 0⟩, ⟨tg1, iter1, ifs1, 0⟩] scope pos) (some (.Name y py)) spos.line X.env = pure true := by exact sw_true rfl rfl rfl rfl) :
    DS X (.Assign [.Name y py] (.ListComp elt [⟨tg, iter, ifs, 0⟩, ⟨tg1, iter1, ifs1, 0⟩] scope pos) spos) (tAsg (tLc2 wi g tt wi1 g1 tt1 te (own.map (·.2)) vs1) (gName i)) (mAsgN (mLc mi (own.map (·.2)) mg (mWhen mt (mClause mi1 vs1 mg1 (mLeaf mt1 me)))) i) :=
  ⟨ps_setLc2 hc hN hy hyl hsw hi.pi (blkOk_by ok) hv (fun s H C cl fp => (hg s H C cl fp).pg) (fun s H C cl fp => (ht s H C cl fp).pts) (fun s H C cl fp => (hi1 s H C cl fp).pi) (fun s H C cl fp => (hg1 s H C cl fp).pg) (fun s H C cl fp => (ht1 s H C cl fp).pts) (fun s H C cl fp => (he s H C cl fp).pe) hs hs1,
    sim_asgN (dn_lc2 (pos := pos) hc hN hi ok hv hg ht hi1 hg1 ht1 he hsub hsub1 hs hs1).sim⟩
theorem ds_setLc2F (i : Nat) (hc : X.calm = true) (hN : X.N.Nodup) (hi : DI X tg iter wi mi) (ok : blkC X.N X.env.scope scope own = true) (hv : ∀ i ∈ vs1, i ∈ own.map (·.2)) (hg : Blk X scope fun Y => DG Y tg is g mg) (ht : Blk X scope fun Y => DTs Y ifs tt mt)
    (hi1 : Blk X scope fun Y => DI Y tg1 iter1 wi1 mi1) (hg1 : Blk X scope fun Y => DG Y tg1 is1 g1 mg1) (ht1 : Blk X scope fun Y => DTs Y ifs1 tt1 mt1) (he : Blk X scope fun Y => DE Y elt te me)
    (hsub : ∀ j ∈ is, j ∈ own.map (·.2) := by decide) (hsub1 : ∀ j ∈ is1, j ∈ vs1 := by decide) (hs : ∀ x, foldedSetIterable iter X.env x = pure x := by intro _; rfl) (hs1 : ∀ env x, foldedSetIterable iter1 env x = pure x := by intro _ _; rfl) (hy : X.N[i]? = some y := by rfl) (hyl : X.env.scope.names.lookup y = some .local := by rfl)
    (hsw : swapsWith (.ListComp elt [⟨tg, iter, ifs, 0⟩, ⟨tg1, iter1, ifs1, 0⟩] scope pos) (some (.Name y py)) spos.line X.env = pure true := by exact sw_true rfl rfl rfl rfl) :
    DS X (.Assign [.Name y py] (.ListComp elt [⟨tg, iter, ifs, 0⟩, ⟨tg1, iter1, ifs1, 0⟩] scope pos) spos) (tAsg (tLc2 wi g tt wi1 g1 tt1 te (own.map (·.2)) vs1) (gName i)) (mAsg (mFz (mLc mi (own.map (·.2)) mg (mWhen mt (mClause mi1 vs1 mg1 (mLeaf mt1 me))))) (mgN i)) :=
  ⟨ps_setLc2 hc hN hy hyl hsw hi.pi (blkOk_by ok) hv (fun s H C cl fp => (hg s H C cl fp).pg) (fun s H C cl fp => (ht s H C cl fp).pts) (fun s H C cl fp => (hi1 s H C cl fp).pi) (fun s H C cl fp => (hg1 s H C cl fp).pg) (fun s H C cl fp => (ht1 s H C cl fp).pts) (fun s H C cl fp => (he s H C cl fp).pe) hs hs1,
    sim_asg (dn_lc2 (pos := pos) hc hN hi ok hv hg ht hi1 hg1 ht1 he hsub hsub1 hs hs1).fz.sim sim_gName⟩
end
end DL
end
section
set_option maxRecDepth 100000
set_option maxHeartbeats 4000000
/-! DL12: constants of the text, nested targets, three arguments. -/
namespace DL
open PySem L2
section
variable {X : Cx} {pos : Pos}
theorem de_globI {x : Str} {i : Int} (hm : ∃ t, X.mg x = some (.int i t)) (hg : Gl X x := by rfl) (hd : (x == ("__debug__" : Str)) = false := by decide) : DE X (.Name x pos) (tC (.int i)) (ret (.int i)) := by
  obtain ⟨t, hm⟩ := hm
  exact de_glob hm ⟨t, rfl⟩ (fun _ => .int i) hg hd
theorem de_globS {x z : Str} (hm : ∃ t, X.mg x = some (.str z t)) (hg : Gl X x := by rfl) (hd : (x == ("__debug__" : Str)) = false := by decide) : DE X (.Name x pos) (tC (.str z)) (ret (.str z)) := by
  obtain ⟨t, hm⟩ := hm
  exact de_glob hm ⟨t, rfl⟩ (fun _ => .str z) hg hd
end
end DL
end
section
set_option maxRecDepth 100000
set_option maxHeartbeats 4000000
/-! DL13: dicts. -/
namespace DL
open PySem L2
section
variable {X : Cx} {pos : Pos} {t : Bool}
/-- {} -/
def mDic0 (t : Bool) : M SV := ret (.dic false t [])
theorem sim_dic0K : SimN (mDic0 false) tDNewK := fun ρ sv ρ' σ G H Q e r q => by
  obtain ⟨rfl, rfl⟩ := ret_some e
  refine fun p np => q p G _ ((Go.refl r).grow (Grow.unknown r.ex np)) np ⟨r.ex.free np, _, upd_same, [], rfl, rfl, .nil⟩
theorem sim_dic0T : SimN (mDic0 true) tDNewT := fun ρ sv ρ' σ G H Q e r q => by
  obtain ⟨rfl, rfl⟩ := ret_some e
  refine fun p np => q p G _ ((Go.refl r).grow (Grow.unknown r.ex np)) np ⟨r.ex.free np, _, upd_same, [], rfl, rfl, .nil⟩
theorem dn_dic0K : DN X (.Dict [] [] pos) tDNewK (mDic0 false) := ⟨pe_dnewK, sim_dic0K⟩
theorem dn_dic0T : DN X (.Dict [] [] pos) tDNewT (mDic0 true) := ⟨pe_dnewT, sim_dic0T⟩
end
/-! ### isinstance(x, T), T a built-in type, x any datum -/
inductive BT where
  | str | int | bool | tuple | list
def BT.id : BT → String
  | .str => "str"
  | .int => "int"
  | .bool => "bool"
  | .tuple => "tuple"
  | .list => "list"
def isBT : BT → Dt → Bool
  | .str, .str _ => true
  | .int, .int _ => true
  | .int, .bool _ => true
  | .bool, .bool _ => true
  | .tuple, .tuple _ => true
  | .list, .list _ => true
  | _, _ => false
theorem isi_of {K : PySem.W.Frag} {G H : Hp} {v : V} {d : Dt} (t : BT) (h : Rp G v d) (e : Ex G H) : ∃ u, TyX K H v u ∧ PySem.W.kitOne K u (.type t.id) = some (isBT t d) := by
  cases h with
  | non => exact ⟨_, .base .non, by cases t <;> first | exact kit_ty (show kitB _ _ = some true from by decide +kernel) | exact kit_ty (show kitB _ _ = some false from by decide +kernel)⟩
  | bl b => exact ⟨_, .base (.bl b), by cases t <;> first | exact kit_ty (show kitB _ _ = some true from by decide +kernel) | exact kit_ty (show kitB _ _ = some false from by decide +kernel)⟩
  | int i => exact ⟨_, .base (.int i), by cases t <;> first | exact kit_ty (show kitB _ _ = some true from by decide +kernel) | exact kit_ty (show kitB _ _ = some false from by decide +kernel)⟩
  | str x => exact ⟨_, .base (.str x), by cases t <;> first | exact kit_ty (show kitB _ _ = some true from by decide +kernel) | exact kit_ty (show kitB _ _ = some false from by decide +kernel)⟩
  | lst h1 h2 => exact ⟨_, .base (.lst (e _ _ h1)), by cases t <;> first | exact kit_ty (show kitB _ _ = some true from by decide +kernel) | exact kit_ty (show kitB _ _ = some false from by decide +kernel)⟩
  | tup h1 h2 => exact ⟨_, .base (.tup (e _ _ h1)), by cases t <;> first | exact kit_ty (show kitB _ _ = some true from by decide +kernel) | exact kit_ty (show kitB _ _ = some false from by decide +kernel)⟩
  | dicK h1 _ h2 => exact ⟨_, .base (.dK (e _ _ h1)), by cases t <;> first | exact kit_ty (show kitB _ _ = some true from by decide +kernel) | exact kit_ty (show kitB _ _ = some false from by decide +kernel)⟩
  | dicT h1 _ h2 => exact ⟨_, .base (.dT (e _ _ h1)), by cases t <;> first | exact kit_ty (show kitB _ _ = some true from by decide +kernel) | exact kit_ty (show kitB _ _ = some false from by decide +kernel)⟩
def mIsT (t : BT) (m : M Dt) : M Dt := bnd m fun d => ret (.bool (isBT t d))
section
variable {X : Cx} {a : Expr} {ta : TE} {p pos : Pos}
theorem sim_isT {K : PySem.W.Frag} (t : BT) {ma : M Dt} (s : SimE ma ta) : SimE (mIsT t ma) (tCB (rIsi K) (tCons ta (tCons (tC (.ty t.id)) tNil))) := fun ρ d ρ' σ G H Q ee rl q => by
  obtain ⟨x, ρ1, h1, h2⟩ := bnd_some ee
  obtain ⟨rfl, rfl⟩ := ret_some h2
  refine s ρ x _ σ G H _ h1 rl fun v G1 H1 g1 rv => ?_
  obtain ⟨u, k1, k2⟩ := isi_of (K := K) t rv g1.ex
  exact ⟨_, _, u, _, isBT t x, rfl, .ty t.id, k1, k2, q _ G1 H1 g1 (.bl _)⟩
theorem de_isT {K : PySem.W.Frag} (t : BT) {x : Str} {ma : M Dt} {p2 : Pos} (hm : X.mg "isinstance" = none) (hms : X.mg x = none) (ha : DE X a ta ma) (hx : bootBuiltins x = some (.type t.id) := by decide +kernel) (hn : x ≠ "__name__" := by decide) (hdb : (x == ("__debug__" : Str)) = false := by decide) (hg : Gl X "isinstance" := by rfl) (hg2 : Gl X x := by rfl) (hs : starEach (a :: [.Name x p2]) X.env = (false, eval a X.env) :: starEach [.Name x p2] X.env := by rfl) (hs2 : starEach [.Name x p2] X.env = (false, eval (.Name x p2) X.env) :: starEach [] X.env := by rfl) (hK : X.K = K := by rfl) :
    DE X (.Call (.Name "isinstance" p) [a, .Name x p2] [] pos) (tCB (rIsi K) (tCons ta (tCons (tC (.ty t.id)) tNil))) (mIsT t ma) := by
  subst hK
  exact ⟨pe_callB call_isi hg hm (by decide +kernel) (pa_cons ha.pe (pa_cons (pe_bltn (v := .ty t.id) hg2 hms hx rfl hn hdb) pa_nil hs2) hs) (he := hs) (hpl := by rw [hs2]; rfl), sim_isT t ha.sim⟩
end
/-! ### promises that ask of no guards -/
def CalK (P : Program) (w : World) (K : PySem.W.Frag) (mg : Str → Option Value) (base : Heap) (x : Str) (k n : Nat) (m : Fnm) : Prop := ∃ f fd ps, FnOk P w K mg base CX0 k f fd ps (spD n m) ∧ mg x = some (.ref f) ∧ PySem.W.keepIn K (.ref f) = true ∧ Binds K fd ps []
section
variable {P : Program} {w : World} {K : PySem.W.Frag} {mg : Str → Option Value} {base : Heap}
theorem CalK.g {x : Str} {k n : Nat} {m : Fnm} (C : CalK P w K mg base x k n m) : Cal P w K mg base x k n m := by
  obtain ⟨f, fd, ps, F, r⟩ := C
  exact ⟨f, fd, ps, .of F, r⟩
theorem fnK_of {qual y : Str} {st : Stmt} {f : Addr} {fd : FuncData} {N ps : List Str} {k n N' : Nat} {m : MS} (F : Fun K y qual st f fd) (S : FnScope N ps (defScope st)) (hn : ps.length = n) (hN : N.length = N')
    (hbody : ∀ (cdv : Value) (A : Around) (outer : List Env) (s : Shared) (H : Hp) (E : XK), Room k (A.deeper (PyProof.Rows.envOfC qual (defScope st) s.heap.objs.size f cdv)) →
      ∃ t, DSs (cxOf CX0 P w K mg base N qual (defScope st) f cdv A outer s H E).nox (defBody st) t m) : FnOk P w K mg base CX0 (k + 1) f fd ps (spD n (fnOf N' m)) := by
  refine F.ok S (fun vs H Q E h => ?_) (fun cdv A outer s H vs Q E hr h => ?_)
  · obtain ⟨_, _, _, _, h, _⟩ := h
    rw [h, hn]
  · obtain ⟨t, hd⟩ := hbody cdv A outer s H E hr
    refine ⟨t, hd.pss, ?_⟩
    obtain ⟨svs, G, r, out, _, e, r0, hp, q⟩ := h
    unfold fnOf at e
    have rs := rs_start (N := N) r0 hp
    rw [hN] at rs
    split at e
    · rename_i r' ρ eb
      cases e
      exact hd.sim _ _ _ _ _ _ _ _ eb rs fun σ' G' H' rs' _ v rr => q v G' H' (rs_end r0 rs') rr
    · rename_i ρ eb
      cases e
      exact hd.sim _ _ _ _ _ _ _ _ eb rs fun σ' G' H' rs' _ => q .non G' H' (rs_end r0 rs') .non
    · cases e
/-- a def that lets nothing out, seen among those that do -/
theorem FnOk.cx {CX : CXT} {k : Nat} {f : Addr} {fd : FuncData} {ps : List Str} {sp : Sp} (F : FnOk P w K mg base CX0 k f fd ps sp) : FnOk P w K mg base CX k f fd ps sp :=
  ⟨F.len, fun A outer s H args us vs Q E hr he hb hv h => codeAny_mono (F.run A outer s H args us vs Q E hr he hb hv h) fun r s' hq => by
    cases r with
    | error e => exact (show False from hq).elim
    | ok fl => cases fl <;> exact hq⟩
end
section
variable {X : Cx} {x : Str} {k n : Nat} {m : Fnm} {e : Expr} {es : List Expr} {ta : TA} {ma : M (List BR)} {p pos : Pos}
theorem drK_call (C : CalK X.prog X.w X.K X.mg X.base x k n m) (hr : Room k X.A) (ha : DA X (e :: es) ta ma) (hn : ArgN ma n := by exact argN_cons (by first | exact argN_nil | exact argN_cons (by first | exact argN_nil | exact argN_cons (by first | exact argN_nil | exact argN_cons (by first | exact argN_nil | exact argN_cons argN_nil))))) (hg : Gl X x := by rfl) (hdb : (x == ("__debug__" : Str)) = false := by decide) (he : starEach (e :: es) X.env = (false, eval e X.env) :: starEach es X.env := by rfl) (hpl : (backTo pos (starEach es X.env)).any (·.1) = false := by rfl) :
    DR X (.Call (.Name x p) (e :: es) [] pos) (tCall (spD n m) [] E0 ta) (mCall m ma) := by
  obtain ⟨f, fd, ps, F, hm, hk, hb⟩ := C
  exact ⟨pe_call F hr hg hm hk hb .nil pass0 ha.pa hdb he hpl, sim_call ha.sim hn⟩
theorem drK_call0 (C : CalK X.prog X.w X.K X.mg X.base x k 0 m) (hr : Room k X.A) (hg : Gl X x := by rfl) (hdb : (x == ("__debug__" : Str)) = false := by decide) : DR X (.Call (.Name x p) [] [] pos) (tCall (spD 0 m) [] E0 tNil) (mCall m mNil) := by
  obtain ⟨f, fd, ps, F, hm, hk, hb⟩ := C
  exact ⟨pe_call0 F hr hg hm hk hb .nil pass0 hdb, sim_call (da_nil (X := X)).sim argN_nil⟩
theorem CalK.mono {P : Program} {w : World} {K : PySem.W.Frag} {mg : Str → Option Value} {base : Heap} {j : Nat} (C : CalK P w K mg base x j n m) (h : j ≤ k) : CalK P w K mg base x k n m := by
  obtain ⟨f, fd, ps, F, r⟩ := C
  exact ⟨f, fd, ps, F.mono h, r⟩
end
end DL
end
section
set_option maxRecDepth 100000
set_option maxHeartbeats 4000000
/-! DLB: the bag that a law makes of its script; what a law's body starts from. -/
namespace DL
open PySem L2
def absI (n : Int) : Int := if n < 0 then -n else n
/-- the bag's data -/
def bag0 (ns : List Int) : List Dt := [.int 0, .int 1234567891, .int 0, .list (ns.map fun n => .int (absI n))]
/-- what _law_bag gives of the script -/
def spBag (K : PySem.W.Frag) : Sp := fun vs H Q _ => ∃ (a : Addr) (ns : List Int), vs = [.ref a] ∧ SqL K H a (ns.map V.int) ∧ ns.length ≤ 63 ∧
  ∀ (p q : Addr) (H' : Hp), Ex H H' → H p = none → H q = none → p ≠ q → H' p = some (.lst [.int 0, .int 1234567891, .int 0, .ref q]) → H' q = some (.lst (ns.map fun n => V.int (absI n))) → Q (.ref p) H'
theorem SqL.ext {K : PySem.W.Frag} {H H' : Hp} {a : Addr} {xs : List V} (h : SqL K H a xs) (e : Ex H H') : SqL K H' a xs := by
  rcases h with (h | ⟨o, h⟩) | h
  · exact .inl (.inl (e _ _ h))
  · exact .inl (.inr ⟨o, e _ _ h⟩)
  · exact .inr h
/-- the reading of _law_bag's return -/
theorem bag_run {K : PySem.W.Frag} {vs : List V} {H : Hp} {Q : VK} {E : XK} (h : spBag K vs H Q E) :
    tLst (tCons (tC (.int 0)) (tCons (tC (.int 1234567891)) (tCons (tC (.int 0)) (tCons (tLc (iList K (tSl (rSlL K) (tVar 0) tNoPart (tPart (tC (.int 63))))) (gName 1) tYes (tCB (fun xs H Q => ∃ i, xs = [.int i] ∧ Q (.int (if i < 0 then -i else i)) H) (tCons (tVar 1) tNil)) [1]) tNil)))) (start ["script", "cell"] vs) H Q := by
  obtain ⟨a, ns, rfl, hs, hl, q⟩ := h
  refine ⟨_, rfl, 63, rfl, a, _, rfl, hs, fun p hp => ?_⟩
  have cut : cutV (ns.map V.int) none (some 63) = ns.map V.int := by
    unfold cutV
    have e : HT.sIx (ns.map V.int).length (ns.map V.int).length (some 63) = min 63 (ns.map V.int).length := HT.sIx_nat ..
    rw [e]
    show ((ns.map V.int).drop 0).take (min 63 (ns.map V.int).length - 0) = _
    rw [List.drop_zero]
    refine List.take_of_length_le ?_
    rw [List.length_map]
    omega
  rw [cut]
  have s1 : SqL K (upd H p (.lst (ns.map V.int))) p (ns.map V.int) := SqL.of upd_same
  refine ⟨p, rfl, ⟨_, s1⟩, fun D hD => ?_⟩
  have pD : D ≠ p := fun e => by rw [e, upd_same] at hD; cases hD
  have hDH : H D = none := by rw [upd_ne pD] at hD; exact hD
  have hpH : H p = none := hp
  refine lc_list (K := K) (a := p) (xs := ns.map V.int) (fun i H' => H' p = some (.lst (ns.map V.int)) ∧ Ex H H' ∧ H' D = some (.lst ((ns.take i).map fun n => V.int (absI n)))) ⟨?_, ?_, ?_⟩ (fun i H' _ h => SqL.of h.1) (fun i x H' hx h => ?_) fun H' h => ?_
  · rw [upd_ne (Ne.symm pD), upd_same]
  · exact (Ex.new hpH).trans (Ex.new hD)
  · rw [upd_same]; rfl
  · obtain ⟨h1, h2, h3⟩ := h
    rw [List.getElem?_map] at hx
    obtain ⟨n, hn, rfl⟩ := Option.map_eq_some_iff.mp hx
    have hi := (List.getElem?_eq_some_iff.mp hn).1
    refine ⟨rfl, ?_⟩
    unfold tYes
    simp only [if_true]
    refine ⟨_, rfl, n, rfl, _, h3, ?_, ?_, ?_, ?_⟩
    · rw [List.length_map, List.length_take, sizeLine_eq]; omega
    · rw [upd_ne (Ne.symm pD)]; exact h1
    · exact h2.mut hDH
    · rw [upd_same, List.take_succ, hn]
      simp [absI]
  · obtain ⟨h1, h2, h3⟩ := h
    refine ⟨by show 4 ≤ sizeLine; decide, fun t ht => ?_⟩
    have tD : t ≠ D := fun e => by rw [e, h3] at ht; cases ht
    have htH : H t = none := h2.free ht
    refine q t D _ (h2.mut htH) htH hDH tD upd_same ?_
    rw [upd_ne (Ne.symm tD), h3]
    simp
/-- behind bag = _law_bag(script): the frame, with the bag as its own object -/
theorem rs_bag {H H' : Hp} {p q : Addr} {ns : List Int} {N : Nat} {v : V} (e : Ex H H') (hp : H p = none) (hq : H q = none) (n : p ≠ q) (h1 : H' p = some (.lst [.int 0, .int 1234567891, .int 0, .ref q])) (h2 : H' q = some (.lst (ns.map fun n => V.int (absI n)))) :
    RS ⟨[.no], [some v], fun _ => none, H⟩ (.no :: .lst false (bag0 ns) :: List.replicate N .no) (some v :: some (.ref p) :: List.replicate N none) (fun b => if b = q then some (.lst (ns.map fun n => V.int (absI n))) else none) H' := by
  have g : ∀ b o, (if b = q then some (HO.lst (ns.map fun n => V.int (absI n))) else none) = some o → b = q ∧ o = .lst (ns.map fun n => V.int (absI n)) := fun b o h => by
    split at h
    · cases h; exact ⟨by assumption, rfl⟩
    · cases h
  have own1 : ∀ i a, OwnAt (.no :: .lst false (bag0 ns) :: List.replicate N .no) (some v :: some (.ref p) :: List.replicate N none) i a → i = 1 ∧ a = p := fun i a ⟨⟨sv, k1, k2⟩, k3⟩ => by
    match i with
    | 0 => simp at k1; subst k1; cases k2
    | 1 => simp at k3; exact ⟨rfl, k3.symm⟩
    | i + 2 =>
      simp only [List.getElem?_cons_succ, List.getElem?_replicate] at k1
      split at k1
      · cases k1; cases k2
      · cases k1
  have rp : ∀ l : List Int, RpAll (fun b => if b = q then some (.lst (ns.map fun n => V.int (absI n))) else none) (l.map fun n => V.int (absI n)) (l.map fun n => .int (absI n)) := fun l => by
    induction l with
    | nil => exact .nil
    | cons x l ih => exact .cons (.int _) ih
  refine ⟨⟨fun b o h => ?_, fun i sv h => ?_, fun i j a o1 o2 => (own1 i a o1).1.trans (own1 j a o2).1.symm, by simp⟩, ⟨(fun _ _ h => by cases h), fun b o h _ => e b o h, fun b _ hb => ?_, fun b hb => ?_⟩, fun i a o => ?_, fun i sv h ho => ?_⟩
  · obtain ⟨rfl, rfl⟩ := g b o h
    exact h2
  · match i with
    | 0 => simp at h; subst h; trivial
    | 1 =>
      simp at h
      subst h
      refine ⟨p, rfl, if_neg n, _, h1, .cons (.int _) (.cons (.int _) (.cons (.int _) (.cons (.lst (if_pos rfl) (rp ns)) .nil)))⟩
    | i + 2 =>
      simp only [List.getElem?_cons_succ, List.getElem?_replicate] at h
      split at h
      · cases h; trivial
      · cases h
  · exact if_neg fun z => hb (by rw [z]; exact hq)
  · cases z : H b with
    | none => exact absurd z hb
    | some o => rw [e b o z]; exact fun w => nomatch w
  · obtain ⟨rfl, rfl⟩ := own1 i a o
    exact .inr hp
  · match i with
    | 0 => simp at h; subst h; cases ho
    | i + 1 => simp at h
end DL
end
section
set_option maxRecDepth 100000
set_option maxHeartbeats 4000000
/-! DM1: what a mirror gives: Wp, construct by construct. -/
namespace DL
open PySem L2
def Wp {α : Type} (m : M α) (ρ : En) (Q : α → En → Prop) : Prop := ∃ a ρ', m ρ = some (a, ρ') ∧ Q a ρ'
def WpF (m : Fnm) (svs : List SV) (Q : Ret → List SV → Prop) : Prop := ∃ r out, m svs = some (r, out) ∧ Q r out
section
variable {α β : Type} {ρ : En}
theorem Wp.mono {m : M α} {Q Q' : α → En → Prop} (h : Wp m ρ Q) (k : ∀ a ρ', Q a ρ' → Q' a ρ') : Wp m ρ Q' := by
  obtain ⟨a, ρ', e, q⟩ := h
  exact ⟨a, ρ', e, k a ρ' q⟩
theorem WpF.mono {m : Fnm} {svs : List SV} {Q Q' : Ret → List SV → Prop} (h : WpF m svs Q) (k : ∀ a ρ', Q a ρ' → Q' a ρ') : WpF m svs Q' := by
  obtain ⟨a, ρ', e, q⟩ := h
  exact ⟨a, ρ', e, k a ρ' q⟩
@[simp] theorem wp_ret {a : α} {Q : α → En → Prop} : Wp (ret a) ρ Q ↔ Q a ρ := ⟨fun ⟨_, _, e, q⟩ => by cases e; exact q, fun q => ⟨_, _, rfl, q⟩⟩
@[simp] theorem wp_bnd {m : M α} {f : α → M β} {Q : β → En → Prop} : Wp (bnd m f) ρ Q ↔ Wp m ρ fun a ρ1 => Wp (f a) ρ1 Q := by
  constructor
  · rintro ⟨b, ρ', e, q⟩
    obtain ⟨a, ρ1, h1, h2⟩ := bnd_some e
    exact ⟨a, ρ1, h1, b, ρ', h2, q⟩
  · rintro ⟨a, ρ1, h1, b, ρ', h2, q⟩
    refine ⟨b, ρ', ?_, q⟩
    unfold bnd
    rw [h1]
    exact h2
@[simp] theorem wp_lft {o : Option α} {Q : α → En → Prop} : Wp (lft o) ρ Q ↔ ∃ a, o = some a ∧ Q a ρ := by
  constructor
  · rintro ⟨a, ρ', e, q⟩
    obtain ⟨h, rfl⟩ := lft_some e
    exact ⟨a, h, q⟩
  · rintro ⟨a, rfl, q⟩
    exact ⟨a, ρ, rfl, q⟩
theorem wp_fun {m : M α} {Q : α → En → Prop} : Wp m ρ Q ↔ ∃ a ρ', m ρ = some (a, ρ') ∧ Q a ρ' := Iff.rfl
@[simp] theorem wp_ite {c : Prop} [Decidable c] {a b : M α} {Q : α → En → Prop} : Wp (if c then a else b) ρ Q ↔ if c then Wp a ρ Q else Wp b ρ Q := by split <;> rfl
@[simp] theorem wp_mV {i : Nat} {Q : Dt → En → Prop} : Wp (mV i) ρ Q ↔ ∃ d, ρ[i]? = some (.imm d) ∧ Q d ρ := by
  constructor
  · rintro ⟨d, ρ', e, q⟩
    unfold mV at e
    (try dsimp only at e)
    split at e
    · cases e; exact ⟨_, by assumption, q⟩
    · cases e
  · rintro ⟨d, e, q⟩
    refine ⟨d, ρ, ?_, q⟩
    unfold mV
    rw [e]
/-- what is borrowed at slot i -/
def brOf (i : Nat) : Option SV → Option BR
  | some (.imm d) => some (.val d)
  | some (.lst _ _) => some (.own i)
  | some (.dic _ _ _) => some (.own i)
  | _ => none
@[simp] theorem wp_mVB {i : Nat} {Q : BR → En → Prop} : Wp (mVB i) ρ Q ↔ ∃ b, brOf i ρ[i]? = some b ∧ Q b ρ := by
  have e : mVB i ρ = (brOf i ρ[i]?).map fun b => (b, ρ) := by
    unfold mVB brOf
    split <;> simp_all
  unfold Wp
  rw [e]
  constructor
  · rintro ⟨d, ρ', h, q⟩
    cases hb : brOf i ρ[i]? with
    | none => rw [hb] at h; cases h
    | some b => rw [hb] at h; cases h; exact ⟨_, rfl, q⟩
  · rintro ⟨b, h, q⟩
    exact ⟨b, ρ, by rw [h]; rfl, q⟩
@[simp] theorem wp_mB {m : M Dt} {Q : BR → En → Prop} : Wp (mB m) ρ Q ↔ Wp m ρ fun d ρ1 => Q (.val d) ρ1 := by unfold mB; simp
@[simp] theorem wp_mFz {m : M SV} {Q : Dt → En → Prop} : Wp (mFz m) ρ Q ↔ Wp m ρ fun s ρ1 => ∃ d, svD s = some d ∧ Q d ρ1 := by unfold mFz; simp
@[simp] theorem wp_mOp {f : Dt → Dt → Option Dt} {a b : M BR} {Q : Dt → En → Prop} : Wp (mOp f a b) ρ Q ↔ Wp a ρ fun x ρ1 => Wp b ρ1 fun y ρ2 => ∃ p q z, brD ρ2 x = some p ∧ brD ρ2 y = some q ∧ f p q = some z ∧ Q z ρ2 := by
  unfold mOp
  rw [wp_bnd]
  constructor
  · rintro ⟨x, ρ1, e1, h⟩
    simp only [wp_bnd] at h
    obtain ⟨y, ρ2, e2, z, ρ3, e3, q⟩ := h
    (try dsimp only at e3)
    split at e3
    · rename_i p p' h1 h2
      obtain ⟨h3, rfl⟩ := lft_some e3
      exact ⟨x, ρ1, e1, y, _, e2, _, _, z, h1, h2, h3, q⟩
    · cases e3
  · rintro ⟨x, ρ1, e1, y, ρ2, e2, p, p', z, h1, h2, h3, q⟩
    refine ⟨x, ρ1, e1, ?_⟩
    simp only [wp_bnd]
    refine ⟨y, ρ2, e2, z, ρ2, ?_, q⟩
    simp only [h1, h2, h3]
    rfl
@[simp] theorem wp_mOpN {f : Dt → Dt → Option SV} {a b : M BR} {Q : SV → En → Prop} : Wp (mOpN f a b) ρ Q ↔ Wp a ρ fun x ρ1 => Wp b ρ1 fun y ρ2 => ∃ p q z, brD ρ2 x = some p ∧ brD ρ2 y = some q ∧ f p q = some z ∧ Q z ρ2 := by
  unfold mOpN
  rw [wp_bnd]
  constructor
  · rintro ⟨x, ρ1, e1, h⟩
    simp only [wp_bnd] at h
    obtain ⟨y, ρ2, e2, z, ρ3, e3, q⟩ := h
    (try dsimp only at e3)
    split at e3
    · rename_i p p' h1 h2
      obtain ⟨h3, rfl⟩ := lft_some e3
      exact ⟨x, ρ1, e1, y, _, e2, _, _, z, h1, h2, h3, q⟩
    · cases e3
  · rintro ⟨x, ρ1, e1, y, ρ2, e2, p, p', z, h1, h2, h3, q⟩
    refine ⟨x, ρ1, e1, ?_⟩
    simp only [wp_bnd]
    refine ⟨y, ρ2, e2, z, ρ2, ?_, q⟩
    simp only [h1, h2, h3]
    rfl
@[simp] theorem wp_mC1 {f : Dt → Option Dt} {a : M BR} {Q : Dt → En → Prop} : Wp (mC1 f a) ρ Q ↔ Wp a ρ fun x ρ1 => ∃ p z, brD ρ1 x = some p ∧ f p = some z ∧ Q z ρ1 := by
  unfold mC1
  rw [wp_bnd]
  constructor
  · rintro ⟨x, ρ1, e1, z, ρ3, e3, q⟩
    (try dsimp only at e3)
    split at e3
    · rename_i p h1
      obtain ⟨h3, rfl⟩ := lft_some e3
      exact ⟨x, _, e1, p, z, h1, h3, q⟩
    · cases e3
  · rintro ⟨x, ρ1, e1, p, z, h1, h3, q⟩
    refine ⟨x, ρ1, e1, z, ρ1, ?_, q⟩
    simp only [h1, h3]
    rfl
@[simp] theorem wp_mC1N {f : Dt → Option SV} {a : M BR} {Q : SV → En → Prop} : Wp (mC1N f a) ρ Q ↔ Wp a ρ fun x ρ1 => ∃ p z, brD ρ1 x = some p ∧ f p = some z ∧ Q z ρ1 := by
  unfold mC1N
  rw [wp_bnd]
  constructor
  · rintro ⟨x, ρ1, e1, z, ρ3, e3, q⟩
    (try dsimp only at e3)
    split at e3
    · rename_i p h1
      obtain ⟨h3, rfl⟩ := lft_some e3
      exact ⟨x, _, e1, p, z, h1, h3, q⟩
    · cases e3
  · rintro ⟨x, ρ1, e1, p, z, h1, h3, q⟩
    refine ⟨x, ρ1, e1, z, ρ1, ?_, q⟩
    simp only [h1, h3]
    rfl
@[simp] theorem wp_mTst {m : M Dt} {Q : Bool → En → Prop} : Wp (mTst m) ρ Q ↔ Wp m ρ fun d ρ1 => ∃ b, d = .bool b ∧ Q b ρ1 := by
  unfold mTst
  rw [wp_bnd]
  constructor
  · rintro ⟨d, ρ1, e1, b, ρ2, e2, q⟩
    (try dsimp only at e2)
    split at e2
    · obtain ⟨rfl, rfl⟩ := ret_some e2
      exact ⟨_, _, e1, _, rfl, q⟩
    · cases e2
  · rintro ⟨d, ρ1, e1, b, rfl, q⟩
    exact ⟨_, ρ1, e1, b, ρ1, rfl, q⟩
@[simp] theorem wp_mNeg {m : M Dt} {Q : Dt → En → Prop} : Wp (mNeg m) ρ Q ↔ Wp m ρ fun d ρ1 => ∃ i, d = .int i ∧ Q (.int (-i)) ρ1 := by
  unfold mNeg
  rw [wp_bnd]
  constructor
  · rintro ⟨d, ρ1, e1, b, ρ2, e2, q⟩
    (try dsimp only at e2)
    split at e2
    · obtain ⟨rfl, rfl⟩ := ret_some e2
      exact ⟨_, _, e1, _, rfl, q⟩
    · cases e2
  · rintro ⟨d, ρ1, e1, b, rfl, q⟩
    exact ⟨_, ρ1, e1, _, ρ1, rfl, q⟩
@[simp] theorem wp_mAnd {a b : M Bool} {Q : Bool → En → Prop} : Wp (mAnd a b) ρ Q ↔ Wp a ρ fun k ρ1 => if k then Wp b ρ1 Q else Q false ρ1 := by
  unfold mAnd
  simp only [wp_bnd, wp_ite, wp_ret]
@[simp] theorem wp_mOr {a b : M Bool} {Q : Bool → En → Prop} : Wp (mOr a b) ρ Q ↔ Wp a ρ fun k ρ1 => if k then Q true ρ1 else Wp b ρ1 Q := by
  unfold mOr
  simp only [wp_bnd, wp_ite, wp_ret]
@[simp] theorem wp_mNot {a : M Bool} {Q : Bool → En → Prop} : Wp (mNot a) ρ Q ↔ Wp a ρ fun k ρ1 => Q (!k) ρ1 := by
  unfold mNot
  simp only [wp_bnd, wp_ret]
@[simp] theorem wp_mIf {c : M Bool} {a b : M α} {Q : α → En → Prop} : Wp (mIf c a b) ρ Q ↔ Wp c ρ fun k ρ1 => if k then Wp a ρ1 Q else Wp b ρ1 Q := by
  unfold mIf
  simp only [wp_bnd, wp_ite]
@[simp] theorem wp_mIsN {n : Bool} {m : M Dt} {Q : Dt → En → Prop} : Wp (mIsN n m) ρ Q ↔ Wp m ρ fun d ρ1 => Q (.bool (n ^^ isNoneD d)) ρ1 := by
  unfold mIsN
  simp only [wp_bnd, wp_ret]
@[simp] theorem wp_mNil {Q : List BR → En → Prop} : Wp mNil ρ Q ↔ Q [] ρ := wp_ret
@[simp] theorem wp_mCons {a : M BR} {r : M (List BR)} {Q : List BR → En → Prop} : Wp (mCons a r) ρ Q ↔ Wp a ρ fun x ρ1 => Wp r ρ1 fun xs ρ2 => Q (x :: xs) ρ2 := by
  unfold mCons
  simp only [wp_bnd, wp_ret]
@[simp] theorem wp_mStar {a : M BR} {r : M (List BR)} {Q : List BR → En → Prop} : Wp (mStar a r) ρ Q ↔ Wp a ρ fun x ρ1 => ∃ ds, (brD ρ1 x).bind seqD = some ds ∧ Wp r ρ1 fun xs ρ2 => Q (ds.map BR.val ++ xs) ρ2 := by
  unfold mStar
  rw [wp_bnd]
  constructor
  · rintro ⟨x, ρ1, e1, b, ρ2, e2, q⟩
    (try dsimp only at e2)
    split at e2
    · rename_i ds h
      have : Wp (bnd r fun xs => ret (ds.map BR.val ++ xs)) ρ1 Q := ⟨b, ρ2, e2, q⟩
      simp only [wp_bnd, wp_ret] at this
      exact ⟨x, ρ1, e1, ds, h, this⟩
    · cases e2
  · rintro ⟨x, ρ1, e1, ds, h, w⟩
    have : Wp (bnd r fun xs => ret (ds.map BR.val ++ xs)) ρ1 Q := by simp only [wp_bnd, wp_ret]; exact w
    obtain ⟨b, ρ2, e2, q⟩ := this
    refine ⟨x, ρ1, e1, b, ρ2, ?_, q⟩
    simp only [h]
    exact e2
@[simp] theorem wp_mTup {m : M (List BR)} {Q : Dt → En → Prop} : Wp (mTup m) ρ Q ↔ Wp m ρ fun bs ρ1 => ∃ ds, vals bs = some ds ∧ ds.length ≤ LIM ∧ Q (.tuple ds) ρ1 := by
  unfold mTup
  simp only [wp_bnd, wp_lft]
  constructor
  · rintro ⟨bs, ρ1, e, d, h, q⟩
    cases hv : vals bs with
    | none => rw [hv] at h; cases h
    | some ds =>
      rw [hv] at h
      simp only [Option.bind_some] at h
      split at h
      · cases h; exact ⟨bs, ρ1, e, ds, hv, by assumption, q⟩
      · cases h
  · rintro ⟨bs, ρ1, e, ds, h, hl, q⟩
    exact ⟨bs, ρ1, e, .tuple ds, by rw [h]; simp [hl], q⟩
@[simp] theorem wp_mLst {m : M (List BR)} {Q : SV → En → Prop} : Wp (mLst m) ρ Q ↔ Wp m ρ fun bs ρ1 => ∃ ds, vals bs = some ds ∧ ds.length ≤ LIM ∧ Q (.lst false ds) ρ1 := by
  unfold mLst
  simp only [wp_bnd, wp_lft]
  constructor
  · rintro ⟨bs, ρ1, e, d, h, q⟩
    cases hv : vals bs with
    | none => rw [hv] at h; cases h
    | some ds =>
      rw [hv] at h
      simp only [Option.bind_some] at h
      split at h
      · cases h; exact ⟨bs, ρ1, e, ds, hv, by assumption, q⟩
      · cases h
  · rintro ⟨bs, ρ1, e, ds, h, hl, q⟩
    exact ⟨bs, ρ1, e, .lst false ds, by rw [h]; simp [hl], q⟩
@[simp] theorem wp_mNoP {Q : Option Int → En → Prop} : Wp mNoP ρ Q ↔ Q none ρ := wp_ret
@[simp] theorem wp_mPart {m : M Dt} {Q : Option Int → En → Prop} : Wp (mPart m) ρ Q ↔ Wp m ρ fun d ρ1 => ∃ i, d = .int i ∧ Q (some i) ρ1 := by
  unfold mPart
  rw [wp_bnd]
  constructor
  · rintro ⟨d, ρ1, e1, b, ρ2, e2, q⟩
    (try dsimp only at e2)
    split at e2
    · obtain ⟨rfl, rfl⟩ := ret_some e2
      exact ⟨_, _, e1, _, rfl, q⟩
    · cases e2
  · rintro ⟨d, ρ1, e1, b, rfl, q⟩
    exact ⟨_, ρ1, e1, _, ρ1, rfl, q⟩
/-- a slice as a function -/
def dSl (d : Option Dt) (lo hi : Option Int) : Option Dt := match d with
  | some (.tuple ds) => some (.tuple (cutL ds lo hi))
  | some (.str s) => if s.length ≤ LIM then some (.str (cutS s lo hi)) else none
  | _ => none
theorem wp_map {F : En → Option α} {Q : α → En → Prop} : Wp (fun ρ => (F ρ).map fun d => (d, ρ)) ρ Q ↔ ∃ d, F ρ = some d ∧ Q d ρ := by
  unfold Wp
  constructor
  · rintro ⟨a, ρ', e, q⟩
    dsimp only at e
    cases h : F ρ with
    | none => rw [h] at e; cases e
    | some d => rw [h] at e; cases e; exact ⟨_, rfl, q⟩
  · rintro ⟨d, e, q⟩
    exact ⟨d, ρ, by dsimp only; rw [e]; rfl, q⟩
@[simp] theorem wp_mSl {m : M BR} {l h : M (Option Int)} {Q : Dt → En → Prop} : Wp (mSl m l h) ρ Q ↔ Wp m ρ fun x ρ1 => Wp l ρ1 fun lo ρ2 => Wp h ρ2 fun hi ρ3 => ∃ d, dSl (brD ρ3 x) lo hi = some d ∧ Q d ρ3 := by
  have e : mSl m l h = bnd m fun x => bnd l fun lo => bnd h fun hi => fun ρ => (dSl (brD ρ x) lo hi).map fun d => (d, ρ) := by
    unfold mSl dSl
    congr 1; funext x; congr 1; funext lo; congr 1; funext hi ρ
    cases brD ρ x with
    | none => rfl
    | some d =>
      cases d <;> try rfl
      dsimp only
      split <;> rfl
  rw [e]
  simp only [wp_bnd, wp_map]
@[simp] theorem wp_mSlL {m : M BR} {l h : M (Option Int)} {Q : SV → En → Prop} : Wp (mSlL m l h) ρ Q ↔ Wp m ρ fun x ρ1 => Wp l ρ1 fun lo ρ2 => Wp h ρ2 fun hi ρ3 => ∃ ds, brD ρ3 x = some (.list ds) ∧ Q (.lst false (cutL ds lo hi)) ρ3 := by
  have e : mSlL m l h = bnd m fun x => bnd l fun lo => bnd h fun hi => fun ρ => (match brD ρ x with
      | some (.list ds) => some (SV.lst false (cutL ds lo hi))
      | _ => none).map fun d => (d, ρ) := by
    unfold mSlL
    congr 1; funext x; congr 1; funext lo; congr 1; funext hi ρ
    cases brD ρ x with
    | none => rfl
    | some d => cases d <;> rfl
  rw [e]
  simp only [wp_bnd, wp_map]
  have k : ∀ x lo hi ρ3, (∃ d, (match brD ρ3 x with
      | some (.list ds) => some (SV.lst false (cutL ds lo hi))
      | _ => none) = some d ∧ Q d ρ3) ↔ ∃ ds, brD ρ3 x = some (.list ds) ∧ Q (.lst false (cutL ds lo hi)) ρ3 := fun x lo hi ρ3 => by
    constructor
    · rintro ⟨d, h, q⟩
      split at h
      · cases h; exact ⟨_, by assumption, q⟩
      · cases h
    · rintro ⟨ds, h, q⟩
      exact ⟨_, by rw [h], q⟩
  simp only [k]
@[simp] theorem wp_mNotV {m : M Dt} {Q : Dt → En → Prop} : Wp (mNotV m) ρ Q ↔ Wp m ρ fun d ρ1 => ∃ b, d = .bool b ∧ Q (.bool (!b)) ρ1 := by
  unfold mNotV
  rw [wp_bnd]
  constructor
  · rintro ⟨d, ρ1, e1, b, ρ2, e2, q⟩
    (try dsimp only at e2)
    split at e2
    · obtain ⟨rfl, rfl⟩ := ret_some e2
      exact ⟨_, _, e1, _, rfl, q⟩
    · cases e2
  · rintro ⟨d, ρ1, e1, b, rfl, q⟩
    exact ⟨_, ρ1, e1, _, ρ1, rfl, q⟩
theorem wp_boolM {m : M Dt} {f : Bool → M Dt} {Q : Dt → En → Prop} : Wp (bnd m fun d => match d with
  | .bool b => f b
  | _ => lft none) ρ Q ↔ Wp m ρ fun d ρ1 => ∃ b, d = .bool b ∧ Wp (f b) ρ1 Q := by
  rw [wp_bnd]
  constructor
  · rintro ⟨d, ρ1, e1, b, ρ2, e2, q⟩
    (try dsimp only at e2)
    split at e2
    · exact ⟨_, _, e1, _, rfl, b, ρ2, e2, q⟩
    · cases e2
  · rintro ⟨d, ρ1, e1, b, rfl, w⟩
    exact ⟨_, ρ1, e1, w⟩
@[simp] theorem wp_mAndV {a b : M Dt} {Q : Dt → En → Prop} : Wp (mAndV a b) ρ Q ↔ Wp a ρ fun d ρ1 => ∃ k, d = .bool k ∧ if k then Wp b ρ1 Q else Q (.bool false) ρ1 := by
  have e : mAndV a b = bnd a fun d => match d with
      | .bool k => if k then b else ret (.bool false)
      | _ => lft none := by
    unfold mAndV
    congr 1
    funext d
    cases d <;> try rfl
    rename_i k
    cases k <;> rfl
  rw [e, wp_boolM]
  simp only [wp_ite, wp_ret]
@[simp] theorem wp_mOrV {a b : M Dt} {Q : Dt → En → Prop} : Wp (mOrV a b) ρ Q ↔ Wp a ρ fun d ρ1 => ∃ k, d = .bool k ∧ if k then Q (.bool true) ρ1 else Wp b ρ1 Q := by
  have e : mOrV a b = bnd a fun d => match d with
      | .bool k => if k then ret (.bool true) else b
      | _ => lft none := by
    unfold mOrV
    congr 1
    funext d
    cases d <;> try rfl
    rename_i k
    cases k <;> rfl
  rw [e, wp_boolM]
  simp only [wp_ite, wp_ret]
@[simp] theorem wp_mChain {f f' : Dt → Dt → Option Dt} {a b c : M Dt} {Q : Dt → En → Prop} : Wp (mChain f f' a b c) ρ Q ↔ Wp a ρ fun x ρ1 => Wp b ρ1 fun y ρ2 => ∃ k, f x y = some (.bool k) ∧ if k then Wp c ρ2 fun z ρ3 => ∃ d, f' y z = some d ∧ Q d ρ3 else Q (.bool false) ρ2 := by
  have e : mChain f f' a b c = bnd a fun x => bnd b fun y => bnd (lft (f x y)) fun d => match d with
      | .bool k => if k then bnd c fun z => lft (f' y z) else ret (.bool false)
      | _ => lft none := by
    unfold mChain
    congr 1; funext x; congr 1; funext y; congr 1; funext d
    cases d <;> try rfl
    rename_i k
    cases k <;> rfl
  rw [e]
  simp only [wp_bnd, wp_boolM]
  have k2 : ∀ x y ρ2, (Wp (lft (f x y)) ρ2 fun d ρ3 => Wp (match d with
      | .bool k => if k then bnd c fun z => lft (f' y z) else ret (.bool false)
      | _ => lft none) ρ3 Q) ↔ ∃ k, f x y = some (.bool k) ∧ if k then Wp c ρ2 fun z ρ3 => ∃ d, f' y z = some d ∧ Q d ρ3 else Q (.bool false) ρ2 := fun x y ρ2 => by
    rw [← wp_bnd, wp_boolM]
    simp only [wp_lft, wp_ite, wp_bnd, wp_ret]
    constructor
    · rintro ⟨d, h, b, rfl, w⟩; exact ⟨b, h, w⟩
    · rintro ⟨b, h, w⟩; exact ⟨_, h, b, rfl, w⟩
  simp only [k2]
/-! ### calls -/
@[simp] theorem wp_mCall {m : Fnm} {ma : M (List BR)} {Q : Ret → En → Prop} : Wp (mCall m ma) ρ Q ↔ Wp ma ρ fun bs ρ1 => (ownIx bs).Nodup ∧ ∃ svs, argSVs ρ1 bs = some svs ∧ WpF m svs fun r out => Q r (putBack ρ1 bs out) := by
  unfold mCall
  rw [wp_bnd]
  constructor
  · rintro ⟨bs, ρ1, e1, r, ρ2, e2, q⟩
    (try dsimp only at e2)
    split at e2
    · rename_i c
      (try dsimp only at e2)
      split at e2
      · rename_i svs hs
        (try dsimp only at e2)
        split at e2
        · rename_i r' out hm
          cases e2
          exact ⟨bs, ρ1, e1, c, svs, hs, _, out, hm, q⟩
        · cases e2
      · cases e2
    · cases e2
  · rintro ⟨bs, ρ1, e1, c, svs, hs, r, out, hm, q⟩
    refine ⟨bs, ρ1, e1, r, putBack ρ1 bs out, ?_, q⟩
    simp only [if_pos c, hs, hm]
@[simp] theorem wp_mRE {m : M Ret} {Q : Dt → En → Prop} : Wp (mRE m) ρ Q ↔ Wp m ρ fun r ρ1 => ∃ d, retD r = some d ∧ Q d ρ1 := by unfold mRE; simp
@[simp] theorem wp_mRN {m : M Ret} {Q : SV → En → Prop} : Wp (mRN m) ρ Q ↔ Wp m ρ fun r ρ1 => ∃ d, retN r = some d ∧ Q d ρ1 := by unfold mRN; simp
theorem wpF_fnOf {N : Nat} {b : MS} {svs : List SV} {Q : Ret → List SV → Prop} : WpF (fnOf N b) svs Q ↔ Wp b (svs ++ List.replicate (N - svs.length) .no) fun o ρ => match o with
    | .rt r => Q r (outOf svs ρ)
    | .nx => Q (.val .none) (outOf svs ρ)
    | _ => False := by
  unfold WpF fnOf Wp
  constructor
  · rintro ⟨r, out, e, q⟩
    (try dsimp only at e)
    split at e
    · rename_i r' ρ' h; cases e; exact ⟨_, _, h, q⟩
    · rename_i ρ' h; cases e; exact ⟨_, _, h, q⟩
    · cases e
  · rintro ⟨o, ρ', e, q⟩
    cases o with
    | rt r => exact ⟨r, _, by rw [e], q⟩
    | nx => exact ⟨_, _, by rw [e], q⟩
    | bk => exact q.elim
    | ct => exact q.elim
/-! ### statements -/
@[simp] theorem wp_mNext {Q : Out → En → Prop} : Wp mNext ρ Q ↔ Q .nx ρ := wp_ret
@[simp] theorem wp_mSeq {a b : MS} {Q : Out → En → Prop} : Wp (mSeq a b) ρ Q ↔ Wp a ρ fun o ρ1 => match o with
    | .nx => Wp b ρ1 Q
    | o => Q o ρ1 := by
  unfold mSeq Wp
  constructor
  · rintro ⟨o, ρ', e, q⟩
    (try dsimp only at e)
    split at e
    · rename_i ρ1 h; exact ⟨.nx, ρ1, h, o, ρ', e, q⟩
    · rename_i h
      refine ⟨o, ρ', e, ?_⟩
      cases o with
      | nx => exact absurd e (h _)
      | bk => exact q
      | ct => exact q
      | rt r => exact q
  · rintro ⟨o, ρ1, e, q⟩
    cases o with
    | nx =>
      obtain ⟨o2, ρ2, e2, q2⟩ := q
      exact ⟨o2, ρ2, by simp only [e, e2], q2⟩
    | bk => exact ⟨_, ρ1, by simp only [e], q⟩
    | ct => exact ⟨_, ρ1, by simp only [e], q⟩
    | rt r => exact ⟨_, ρ1, by simp only [e], q⟩
@[simp] theorem wp_mIfS {c : M Bool} {a b : MS} {Q : Out → En → Prop} : Wp (mIfS c a b) ρ Q ↔ Wp c ρ fun k ρ1 => if k then Wp a ρ1 Q else Wp b ρ1 Q := by
  unfold mIfS
  simp only [wp_bnd, wp_ite]
@[simp] theorem wp_mRet {m : M Dt} {Q : Out → En → Prop} : Wp (mRet m) ρ Q ↔ Wp m ρ fun d ρ1 => Q (.rt (.val d)) ρ1 := by unfold mRet; simp
@[simp] theorem wp_mRetN {m : M SV} {Q : Out → En → Prop} : Wp (mRetN m) ρ Q ↔ Wp m ρ fun d ρ1 => Q (.rt (.new d)) ρ1 := by unfold mRetN; simp
@[simp] theorem wp_mRetF {m : M Dt} {Q : Out → En → Prop} : Wp (mRetF m) ρ Q ↔ Wp m (ρ.map frzSV) fun d ρ1 => Q (.rt (.val d)) ρ1 := by
  show Wp (mRet m) (ρ.map frzSV) Q ↔ _
  simp
def ownRet : Option SV → Option SV
  | some (.lst false ds) => some (.lst false ds)
  | some (.dic false t ds) => some (.dic false t ds)
  | _ => none
@[simp] theorem wp_mRetV {i : Nat} {Q : Out → En → Prop} : Wp (mRetV i) ρ Q ↔ ∃ s, ownRet ρ[i]? = some s ∧ Q (.rt (.new s)) ρ := by
  have e : mRetV i ρ = (ownRet ρ[i]?).map fun s => (.rt (.new s), ρ) := by
    unfold mRetV ownRet
    split <;> simp_all
  unfold Wp
  rw [e]
  constructor
  · rintro ⟨d, ρ', h, q⟩
    cases hb : ownRet ρ[i]? with
    | none => rw [hb] at h; cases h
    | some b => rw [hb] at h; cases h; exact ⟨_, rfl, q⟩
  · rintro ⟨b, h, q⟩
    exact ⟨_, ρ, by rw [h]; rfl, q⟩
@[simp] theorem wp_mDrop {m : M Dt} {Q : Out → En → Prop} : Wp (mDrop m) ρ Q ↔ Wp m ρ fun _ ρ1 => Q .nx ρ1 := by unfold mDrop; simp
theorem wp_tgt {m : M α} {f : α → En → Option En} {Q : Out → En → Prop} : Wp (bnd m fun d => fun ρ => match f d ρ with
  | some ρ1 => some (Out.nx, ρ1)
  | none => none) ρ Q ↔ Wp m ρ fun d ρ1 => ∃ ρ2, f d ρ1 = some ρ2 ∧ Q .nx ρ2 := by
  rw [wp_bnd]
  constructor
  · rintro ⟨d, ρ1, e, o, ρ2, e2, q⟩
    (try dsimp only at e2)
    split at e2
    · rename_i ρ3 h; cases e2; exact ⟨d, ρ1, e, _, h, q⟩
    · cases e2
  · rintro ⟨d, ρ1, e, ρ2, h, q⟩
    exact ⟨d, ρ1, e, .nx, ρ2, by simp only [h], q⟩
@[simp] theorem wp_mAsg {m : M Dt} {g : MG} {Q : Out → En → Prop} : Wp (mAsg m g) ρ Q ↔ Wp m ρ fun d ρ1 => ∃ ρ2, g d ρ1 = some ρ2 ∧ Q .nx ρ2 := wp_tgt
@[simp] theorem wp_mAsgN {m : M SV} {i : Nat} {Q : Out → En → Prop} : Wp (mAsgN m i) ρ Q ↔ Wp m ρ fun d ρ1 => ∃ ρ2, putS i d ρ1 = some ρ2 ∧ Q .nx ρ2 := by
  have e : mAsgN m i = bnd m fun d => fun ρ => match putS i d ρ with
      | some ρ1 => some (Out.nx, ρ1)
      | none => none := by
    unfold mAsgN
    congr 1
    funext d ρ
    unfold putS
    cases h : ρ[i]? with
    | none => rfl
    | some s0 => cases c : isPin s0 <;> simp [c]
  rw [e, wp_tgt]
@[simp] theorem wp_mXe {m : M Dt} {Q : SV → En → Prop} : Wp (mXe m) ρ Q ↔ Wp m ρ fun d ρ1 => Q (.imm d) ρ1 := by unfold mXe; simp
@[simp] theorem wp_mXs_nil {Q : List SV → En → Prop} : Wp (mXs []) ρ Q ↔ Q [] ρ := wp_ret
@[simp] theorem wp_mXs_cons {m : M SV} {ms : List (M SV)} {Q : List SV → En → Prop} : Wp (mXs (m :: ms)) ρ Q ↔ Wp m ρ fun x ρ1 => Wp (mXs ms) ρ1 fun xs ρ2 => Q (x :: xs) ρ2 := by
  show Wp (bnd m fun s => bnd (mXs ms) fun ss => ret (s :: ss)) ρ Q ↔ _
  simp only [wp_bnd, wp_ret]
@[simp] theorem wp_mPar {is : List Nat} {ms : List (M SV)} {Q : Out → En → Prop} : Wp (mPar is ms) ρ Q ↔ Wp (mXs ms) ρ fun ss ρ1 => ∃ ρ2, putSs is ss ρ1 = some ρ2 ∧ Q .nx ρ2 := wp_tgt (f := fun ss ρ => putSs is ss ρ)
@[simp] theorem wp_mAug {i : Nat} {f : Dt → Dt → Option Dt} {m : M Dt} {Q : Out → En → Prop} : Wp (mAug i f m) ρ Q ↔ ∃ a, ρ[i]? = some (.imm a) ∧ Wp m ρ fun b ρ1 => ∃ z, f a b = some z ∧ ∃ ρ2, mgN i z ρ1 = some ρ2 ∧ Q .nx ρ2 := by
  have e : mAug i f m = bnd (mV i) fun a => bnd m fun b => bnd (lft (f a b)) fun z => fun ρ => match mgN i z ρ with
      | some ρ1 => some (Out.nx, ρ1)
      | none => none := rfl
  rw [e]
  simp only [wp_bnd, wp_mV]
  have k : ∀ a b ρ1, (Wp (lft (f a b)) ρ1 fun z ρ2 => Wp (fun ρ => match mgN i z ρ with
      | some ρ1 => some (Out.nx, ρ1)
      | none => none) ρ2 Q) ↔ ∃ z, f a b = some z ∧ ∃ ρ2, mgN i z ρ1 = some ρ2 ∧ Q .nx ρ2 := fun a b ρ1 => by
    rw [← wp_bnd, wp_tgt, wp_lft]
  simp only [k]
/-! ### own lists -/
def lstAt : Option SV → Option (Bool × List Dt)
  | some (.lst p ds) => some (p, ds)
  | _ => none
theorem wp_putL {i : Nat} {f : List Dt → Option (Dt × List Dt)} {Q : Dt → En → Prop} : Wp (putL i f) ρ Q ↔ ∃ p ds d ds', ρ[i]? = some (.lst p ds) ∧ f ds = some (d, ds') ∧ Q d (ρ.set i (.lst p ds')) := by
  unfold Wp putL
  constructor
  · rintro ⟨a, ρ', e, q⟩
    (try dsimp only at e)
    split at e
    · rename_i p ds h
      (try dsimp only at e)
      split at e
      · rename_i d ds' h2; cases e; exact ⟨p, ds, _, _, h, h2, q⟩
      · cases e
    · cases e
  · rintro ⟨p, ds, d, ds', h, h2, q⟩
    exact ⟨d, _, by simp only [h, h2], q⟩
theorem isLst_iff {s : Option SV} : isLst s = true ↔ ∃ p ds, s = some (.lst p ds) := by
  unfold isLst
  constructor
  · intro h
    split at h
    · exact ⟨_, _, rfl⟩
    · cases h
  · rintro ⟨p, ds, rfl⟩; rfl
@[simp] theorem wp_mMtE {i : Nat} {f : List Dt → Dt → Option (Dt × List Dt)} {m : M Dt} {Q : Dt → En → Prop} : Wp (mMtE i f m) ρ Q ↔ isLst ρ[i]? = true ∧ Wp m ρ fun x ρ1 => ∃ p ds d ds', ρ1[i]? = some (.lst p ds) ∧ f ds x = some (d, ds') ∧ Q d (ρ1.set i (.lst p ds')) := by
  have e : mMtE i f m ρ = if isLst ρ[i]? then (bnd m fun x => putL i (fun ds => f ds x)) ρ else none := rfl
  by_cases c : isLst ρ[i]? = true
  · unfold Wp
    rw [e, if_pos c]
    show Wp (bnd m fun x => putL i (fun ds => f ds x)) ρ Q ↔ _
    rw [wp_bnd]
    simp only [wp_putL, c, true_and]
    rfl
  · unfold Wp
    rw [e, if_neg c]
    simp [c]
@[simp] theorem wp_mMt0 {i : Nat} {f : List Dt → Option (Dt × List Dt)} {Q : Dt → En → Prop} : Wp (mMt0 i f) ρ Q ↔ ∃ p ds d ds', ρ[i]? = some (.lst p ds) ∧ f ds = some (d, ds') ∧ Q d (ρ.set i (.lst p ds')) := wp_putL
@[simp] theorem wp_mMt1 {i : Nat} {f : List Dt → Dt → Option (Dt × List Dt)} {m : M BR} {Q : Dt → En → Prop} : Wp (mMt1 i f m) ρ Q ↔ isLst ρ[i]? = true ∧ Wp m ρ fun b ρ1 => ∃ x, brD ρ1 b = some x ∧ ∃ p ds d ds', ρ1[i]? = some (.lst p ds) ∧ f ds x = some (d, ds') ∧ Q d (ρ1.set i (.lst p ds')) := by
  have e : mMt1 i f m ρ = if isLst ρ[i]? then (bnd m fun b => fun ρ1 => match brD ρ1 b with
    | some x => putL i (fun ds => f ds x) ρ1
    | none => none) ρ else none := rfl
  by_cases c : isLst ρ[i]? = true
  · unfold Wp
    rw [e, if_pos c]
    show Wp (bnd m fun b => fun ρ1 => match brD ρ1 b with
    | some x => putL i (fun ds => f ds x) ρ1
    | none => none) ρ Q ↔ _
    rw [wp_bnd]
    have k : ∀ b ρ1, Wp (fun ρ1 => match brD ρ1 b with
      | some x => putL i (fun ds => f ds x) ρ1
      | none => none) ρ1 Q ↔ ∃ x, brD ρ1 b = some x ∧ ∃ p ds d ds', ρ1[i]? = some (.lst p ds) ∧ f ds x = some (d, ds') ∧ Q d (ρ1.set i (.lst p ds')) := fun b ρ1 => by
      constructor
      · rintro ⟨d, ρ2, e, q⟩
        (try dsimp only at e)
        split at e
        · rename_i x h; exact ⟨x, h, wp_putL.mp ⟨d, ρ2, e, q⟩⟩
        · cases e
      · rintro ⟨x, h, w⟩
        obtain ⟨d, ρ2, e, q⟩ := wp_putL.mpr w
        exact ⟨d, ρ2, by simp only [h]; exact e, q⟩
    simp only [k, c, true_and]
    rfl
  · unfold Wp
    rw [e, if_neg c]
    simp [c]
@[simp] theorem wp_mMt2 {i : Nat} {f : List Dt → Dt → Dt → Option (Dt × List Dt)} {m n : M Dt} {Q : Dt → En → Prop} : Wp (mMt2 i f m n) ρ Q ↔ isLst ρ[i]? = true ∧ Wp m ρ fun x ρ1 => Wp n ρ1 fun y ρ2 => ∃ p ds d ds', ρ2[i]? = some (.lst p ds) ∧ f ds x y = some (d, ds') ∧ Q d (ρ2.set i (.lst p ds')) := by
  have e : mMt2 i f m n ρ = if isLst ρ[i]? then (bnd m fun x => bnd n fun y => putL i (fun ds => f ds x y)) ρ else none := rfl
  by_cases c : isLst ρ[i]? = true
  · unfold Wp
    rw [e, if_pos c]
    show Wp (bnd m fun x => bnd n fun y => putL i (fun ds => f ds x y)) ρ Q ↔ _
    rw [wp_bnd]
    simp only [wp_bnd, wp_putL, c, true_and]
    rfl
  · unfold Wp
    rw [e, if_neg c]
    simp [c]
@[simp] theorem wp_mSetL {me mi : M Dt} {i : Nat} {Q : Out → En → Prop} : Wp (mSetL me i mi) ρ Q ↔ Wp me ρ fun y ρ1 => isLst ρ1[i]? = true ∧ Wp mi ρ1 fun k ρ2 => ∃ p ds d ds', ρ2[i]? = some (.lst p ds) ∧ fSet ds k y = some (d, ds') ∧ Q .nx (ρ2.set i (.lst p ds')) := by
  unfold mSetL
  simp only [wp_bnd, wp_mMtE, wp_ret]
@[simp] theorem wp_mAugS {mi me : M Dt} {i : Nat} {f : Dt → Dt → Option Dt} {Q : Out → En → Prop} : Wp (mAugS i mi f me) ρ Q ↔ isLst ρ[i]? = true ∧ Wp mi ρ fun k ρ1 => ∃ p0 ds0 a, ρ1[i]? = some (.lst p0 ds0) ∧ fGet ds0 k = some a ∧ Wp me ρ1 fun b ρ2 => ∃ z, f a b = some z ∧
    ∃ p ds d ds', ρ2[i]? = some (.lst p ds) ∧ fSet ds k z = some (d, ds') ∧ Q .nx (ρ2.set i (.lst p ds')) := by
  have e : mAugS i mi f me ρ = if isLst ρ[i]? then (bnd mi fun k => bnd (getL i k) fun a => bnd me fun b => bnd (lft (f a b)) fun z => bnd (putL i fun ds => fSet ds k z) fun _ => ret .nx) ρ else none := rfl
  have kg : ∀ (k : Dt) (ρ1 : En) (R : Dt → En → Prop), Wp (getL i k) ρ1 R ↔ ∃ p0 ds0 a, ρ1[i]? = some (.lst p0 ds0) ∧ fGet ds0 k = some a ∧ R a ρ1 := fun k ρ1 R => by
    unfold Wp getL
    constructor
    · rintro ⟨a, ρ', e, q⟩
      (try dsimp only at e)
      split at e
      · rename_i p ds h
        (try dsimp only at e)
        split at e
        · rename_i d h2; cases e; exact ⟨p, ds, _, h, h2, q⟩
        · cases e
      · cases e
    · rintro ⟨p, ds, a, h, h2, q⟩
      exact ⟨a, _, by simp only [h, h2], q⟩
  by_cases c : isLst ρ[i]? = true
  · unfold Wp
    rw [e, if_pos c]
    show Wp (bnd mi fun k => bnd (getL i k) fun a => bnd me fun b => bnd (lft (f a b)) fun z => bnd (putL i fun ds => fSet ds k z) fun _ => ret Out.nx) ρ Q ↔ _
    simp only [wp_bnd, kg, wp_putL, wp_lft, wp_ret, c, true_and]
    rfl
  · unfold Wp
    rw [e, if_neg c]
    simp [c]
/-! ### loops -/
/-- what a turn's end means -/
def after (next : En → Prop) (Q : Out → En → Prop) : Out → En → Prop
  | .nx, ρ => next ρ
  | .ct, ρ => next ρ
  | .bk, ρ => Q .nx ρ
  | .rt r, ρ => Q (.rt r) ρ
theorem wp_forL_nil {g : MG} {b : MS} {Q : Out → En → Prop} : Wp (mForL g b []) ρ Q ↔ Q .nx ρ := wp_ret
theorem wp_forL_cons {g : MG} {b : MS} {d : Dt} {ds : List Dt} {Q : Out → En → Prop} : Wp (mForL g b (d :: ds)) ρ Q ↔ ∃ ρ1, g d ρ = some ρ1 ∧ Wp b ρ1 (after (fun ρ2 => Wp (mForL g b ds) ρ2 Q) Q) := by
  constructor
  · rintro ⟨o, ρ', e, q⟩
    simp only [mForL] at e
    split at e
    · cases e
    · rename_i ρ1 h1
      refine ⟨ρ1, h1, ?_⟩
      split at e
      · cases e
      · rename_i ρ2 h; exact ⟨.nx, ρ2, h, (⟨o, ρ', e, q⟩ : Wp (mForL g b ds) ρ2 Q)⟩
      · rename_i ρ2 h; exact ⟨.ct, ρ2, h, (⟨o, ρ', e, q⟩ : Wp (mForL g b ds) ρ2 Q)⟩
      · rename_i h; cases e; exact ⟨.bk, _, h, q⟩
      · rename_i h; cases e; exact ⟨.rt _, _, h, q⟩
  · rintro ⟨ρ1, h1, o, ρ2, h2, w⟩
    cases o with
    | nx => obtain ⟨o', ρ', e, q⟩ := w; exact ⟨o', ρ', by simp only [mForL, h1, h2, e], q⟩
    | ct => obtain ⟨o', ρ', e, q⟩ := w; exact ⟨o', ρ', by simp only [mForL, h1, h2, e], q⟩
    | bk => exact ⟨_, _, by simp only [mForL, h1, h2], w⟩
    | rt r => exact ⟨_, _, by simp only [mForL, h1, h2], w⟩
/-- THE RULE of for: an invariant by the items that are done and the items to come -/
theorem wp_forL {g : MG} {b : MS} {Q : Out → En → Prop} (I : List Dt → List Dt → En → Prop) {ds : List Dt} (h0 : I [] ds ρ)
    (step : ∀ done d rest ρ, ds = done ++ d :: rest → I done (d :: rest) ρ → ∃ ρ1, g d ρ = some ρ1 ∧ Wp b ρ1 (after (fun ρ2 => I (done ++ [d]) rest ρ2) Q))
    (fin : ∀ ρ, I ds [] ρ → Q .nx ρ) : Wp (mForL g b ds) ρ Q := by
  have go : ∀ rest done ρ, ds = done ++ rest → I done rest ρ → Wp (mForL g b rest) ρ Q := by
    intro rest
    induction rest with
    | nil =>
      intro done ρ e i
      rw [List.append_nil] at e
      subst e
      exact wp_forL_nil.mpr (fin ρ i)
    | cons d rest ih =>
      intro done ρ e i
      obtain ⟨ρ1, h1, w⟩ := step done d rest ρ e i
      refine wp_forL_cons.mpr ⟨ρ1, h1, w.mono fun o ρ2 a => ?_⟩
      cases o with
      | nx => exact ih (done ++ [d]) ρ2 (by rw [e]; simp) a
      | ct => exact ih (done ++ [d]) ρ2 (by rw [e]; simp) a
      | bk => exact a
      | rt r => exact a
  exact go ds [] ρ rfl h0
@[simp] theorem wp_mFor {mi : M (List Dt × Gd)} {g : MG} {b : MS} {Q : Out → En → Prop} : Wp (mFor mi g b) ρ Q ↔ Wp mi ρ fun x ρ1 => x.2 = [] ∧ Wp (mForL g b x.1) ρ1 Q := by
  unfold mFor
  rw [wp_bnd]
  constructor
  · rintro ⟨x, ρ1, e, o, ρ2, e2, q⟩
    (try dsimp only at e2)
    split at e2
    · rename_i c
      exact ⟨x, ρ1, e, by simpa using c, o, ρ2, e2, q⟩
    · cases e2
  · rintro ⟨x, ρ1, e, c, o, ρ2, e2, q⟩
    exact ⟨x, ρ1, e, o, ρ2, by rw [c]; exact e2, q⟩
theorem wp_while {c : M Bool} {b : MS} {Q : Out → En → Prop} (μ : En → Nat) (I : En → Prop) (h0 : I ρ) (hμ : μ ρ < FUEL)
    (step : ∀ ρ, I ρ → Wp c ρ fun k ρ1 => if k = true then Wp b ρ1 (after (fun ρ2 => I ρ2 ∧ μ ρ2 < μ ρ) Q) else Q .nx ρ1) : Wp (mWhile c b) ρ Q := by
  have go : ∀ n ρ, I ρ → μ ρ < n → Wp (mWh c b n) ρ Q := by
    intro n
    induction n with
    | zero => intro ρ _ h; omega
    | succ n ih =>
      intro ρ i h
      obtain ⟨k, ρ1, e1, w⟩ := step ρ i
      cases k with
      | false => exact ⟨_, _, by simp only [mWh, e1], w⟩
      | true =>
        rw [if_pos rfl] at w
        obtain ⟨o, ρ2, e2, w⟩ := w
        cases o with
        | nx =>
          obtain ⟨o', ρ', e3, q⟩ := ih ρ2 w.1 (by have := w.2; omega)
          exact ⟨o', ρ', by simp only [mWh, e1, e2, e3], q⟩
        | ct =>
          obtain ⟨o', ρ', e3, q⟩ := ih ρ2 w.1 (by have := w.2; omega)
          exact ⟨o', ρ', by simp only [mWh, e1, e2, e3], q⟩
        | bk => exact ⟨_, _, by simp only [mWh, e1, e2], w⟩
        | rt r => exact ⟨_, _, by simp only [mWh, e1, e2], w⟩
  exact go FUEL ρ h0 hμ
/-- comprehensions: the item for each -/
@[simp] theorem wp_mYes {Q : Bool → En → Prop} : Wp mYes ρ Q ↔ Q true ρ := wp_ret
theorem wp_mLeaf {t : M Bool} {el : M Dt} {acc : List Dt} {Q : List Dt → En → Prop} : Wp (mLeaf t el acc) ρ Q ↔ Wp t ρ fun b ρ1 => if b then Wp el ρ1 fun x ρ2 => acc.length < LIM ∧ Q (acc ++ [x]) ρ2 else Q acc ρ1 := by
  unfold mLeaf
  simp only [wp_bnd, wp_ite, wp_ret, wp_lft]
  have k : ∀ x ρ2, (if acc.length < LIM then Q (acc ++ [x]) ρ2 else ∃ a : List Dt, none = some a ∧ Q a ρ2) ↔ acc.length < LIM ∧ Q (acc ++ [x]) ρ2 := fun x ρ2 => by
    split
    · rename_i h; simp [h]
    · rename_i h; simp [h]
  simp only [k]
theorem wp_mWhen {t : M Bool} {mb : MA} {acc : List Dt} {Q : List Dt → En → Prop} : Wp (mWhen t mb acc) ρ Q ↔ Wp t ρ fun b ρ1 => if b then Wp (mb acc) ρ1 Q else Q acc ρ1 := by
  unfold mWhen
  simp only [wp_bnd, wp_ite, wp_ret]
theorem wp_lcGo {gs : Gd} {vs : List Nat} {g : MG} {mb : MA} {Q : List Dt → En → Prop} (I : List Dt → List Dt → List Dt → En → Prop) {ds acc : List Dt} (h0 : I [] ds acc ρ)
    (step : ∀ done d rest acc ρ, ds = done ++ d :: rest → I done (d :: rest) acc ρ → ∃ ρ1, g d ρ = some ρ1 ∧ Wp (mb acc) ρ1 fun acc' ρ2 => GuardOk (wipeE ρ2 vs) gs ∧ I (done ++ [d]) rest acc' (wipeE ρ2 vs))
    (fin : ∀ acc ρ, I ds [] acc ρ → Q acc ρ) : Wp (lcGo gs vs g mb ds acc) ρ Q := by
  have go : ∀ rest done acc ρ, ds = done ++ rest → I done rest acc ρ → Wp (lcGo gs vs g mb rest acc) ρ Q := by
    intro rest
    induction rest with
    | nil =>
      intro done acc ρ e i
      rw [List.append_nil] at e
      subst e
      exact ⟨acc, ρ, rfl, fin acc ρ i⟩
    | cons d rest ih =>
      intro done acc ρ e i
      obtain ⟨ρ1, h1, acc', ρ2, h2, hg, i2⟩ := step done d rest acc ρ e i
      obtain ⟨a, ρ3, e3, q⟩ := ih (done ++ [d]) acc' _ (by rw [e]; simp) i2
      exact ⟨a, ρ3, by simp only [lcGo, h1, h2, if_pos hg]; exact e3, q⟩
  exact go ds [] acc ρ rfl h0
theorem wp_mClause {mi : M (List Dt × Gd)} {vs : List Nat} {g : MG} {mb : MA} {acc : List Dt} {Q : List Dt → En → Prop} : Wp (mClause mi vs g mb acc) ρ Q ↔ Wp mi ρ fun x ρ1 => noOwn ρ1 vs = true ∧ (x.2.all fun g => decide (g.1 ∉ vs)) = true ∧ Wp (lcGo x.2 vs g mb x.1 acc) (wipeE ρ1 vs) fun acc' ρ2 => Q acc' (backE ρ1 ρ2 vs) := by
  unfold mClause
  rw [wp_bnd]
  constructor
  · rintro ⟨x, ρ1, e, a, ρ2, e2, q⟩
    (try dsimp only at e2)
    split at e2
    · rename_i c
      split at e2
      · rename_i acc' ρ3 h
        cases e2
        rw [Bool.and_eq_true] at c
        exact ⟨x, ρ1, e, c.1, c.2, _, _, h, q⟩
      · cases e2
    · cases e2
  · rintro ⟨x, ρ1, e, c1, c2, a, ρ2, h, q⟩
    refine ⟨x, ρ1, e, a, backE ρ1 ρ2 vs, ?_, q⟩
    dsimp only
    rw [c1, c2, Bool.and_self, if_pos rfl, h]
theorem wp_mLc {mi : M (List Dt × Gd)} {vs : List Nat} {g : MG} {mb : MA} {Q : SV → En → Prop} : Wp (mLc mi vs g mb) ρ Q ↔ Wp mi ρ fun x ρ1 => noOwn ρ1 vs = true ∧ (x.2.all fun g => decide (g.1 ∉ vs)) = true ∧ Wp (lcGo x.2 vs g mb x.1 []) (wipeE ρ1 vs) fun acc' ρ2 => Q (.lst false acc') (backE ρ1 ρ2 vs) := by
  unfold mLc
  simp only [wp_bnd, wp_ret, wp_mClause]
/-! ### what is walked -/
@[simp] theorem wp_mSeq1 {m : M BR} {Q : List Dt × Gd → En → Prop} : Wp (mSeq1 m) ρ Q ↔ Wp m ρ fun b ρ1 => ∃ ds, (brD ρ1 b).bind seqD = some ds ∧ Q (ds, gIx ds b) ρ1 := by
  unfold mSeq1
  rw [wp_bnd]
  constructor
  · rintro ⟨b, ρ1, e, x, ρ2, e2, q⟩
    (try dsimp only at e2)
    split at e2
    · cases e2; exact ⟨b, _, e, _, by assumption, q⟩
    · cases e2
  · rintro ⟨b, ρ1, e, ds, h, q⟩
    exact ⟨b, ρ1, e, _, ρ1, by dsimp only; rw [h], q⟩
@[simp] theorem wp_mEnum {m : M BR} {Q : List Dt × Gd → En → Prop} : Wp (mEnum m) ρ Q ↔ Wp (mSeq1 m) ρ fun x ρ1 => Q (enumD x.1, x.2) ρ1 := by unfold mEnum; simp only [wp_bnd, wp_ret]
@[simp] theorem wp_mZip {a b : M BR} {Q : List Dt × Gd → En → Prop} : Wp (mZip a b) ρ Q ↔ Wp a ρ fun x ρ1 => Wp b ρ1 fun y ρ2 => ∃ ds es, (brD ρ2 x).bind seqD = some ds ∧ (brD ρ2 y).bind seqD = some es ∧ Q (zipD ds es, gIx ds x ++ gIx es y) ρ2 := by
  unfold mZip
  rw [wp_bnd]
  constructor
  · rintro ⟨x, ρ1, e, w⟩
    simp only [wp_bnd] at w
    obtain ⟨y, ρ2, e1, r, ρ3, e2, q⟩ := w
    (try dsimp only at e2)
    split at e2
    · cases e2; exact ⟨x, ρ1, e, y, _, e1, _, _, by assumption, by assumption, q⟩
    · cases e2
  · rintro ⟨x, ρ1, e, y, ρ2, e1, ds, es, h1, h2, q⟩
    refine ⟨x, ρ1, e, ?_⟩
    simp only [wp_bnd]
    exact ⟨y, ρ2, e1, _, ρ2, by dsimp only; rw [h1, h2], q⟩
@[simp] theorem wp_mRng1 {a : M Dt} {Q : List Dt × Gd → En → Prop} : Wp (mRng1 a) ρ Q ↔ Wp a ρ fun d ρ1 => ∃ j : Int, d = .int j ∧ (-1000000 ≤ j ∧ j ≤ 1000000) ∧ Q (rangeD 0 j.toNat, []) ρ1 := by
  unfold mRng1
  rw [wp_bnd]
  constructor
  · rintro ⟨d, ρ1, e, x, ρ2, e2, q⟩
    (try dsimp only at e2)
    split at e2
    · split at e2
      · rename_i j c
        obtain ⟨rfl, rfl⟩ := ret_some e2
        exact ⟨_, _, e, j, rfl, c, q⟩
      · cases e2
    · cases e2
  · rintro ⟨d, ρ1, e, j, rfl, c, q⟩
    exact ⟨_, ρ1, e, _, ρ1, by dsimp only; rw [if_pos c]; rfl, q⟩
@[simp] theorem wp_mRng2 {a b : M Dt} {Q : List Dt × Gd → En → Prop} : Wp (mRng2 a b) ρ Q ↔ Wp a ρ fun d ρ1 => Wp b ρ1 fun d' ρ2 => ∃ i j : Int, d = .int i ∧ d' = .int j ∧ ((-1000000 ≤ i ∧ i ≤ 1000000) ∧ -1000000 ≤ j ∧ j ≤ 1000000) ∧ Q (rangeD i (j - i).toNat, []) ρ2 := by
  unfold mRng2
  rw [wp_bnd]
  constructor
  · rintro ⟨d, ρ1, e, w⟩
    simp only [wp_bnd] at w
    obtain ⟨d', ρ2, e1, x, ρ3, e2, q⟩ := w
    (try dsimp only at e2)
    split at e2
    · split at e2
      · rename_i i j c
        obtain ⟨rfl, rfl⟩ := ret_some e2
        exact ⟨_, _, e, _, _, e1, i, j, rfl, rfl, c, q⟩
      · cases e2
    · cases e2
  · rintro ⟨d, ρ1, e, d', ρ2, e1, i, j, rfl, rfl, c, q⟩
    refine ⟨_, ρ1, e, ?_⟩
    simp only [wp_bnd]
    exact ⟨_, ρ2, e1, _, ρ2, by dsimp only; rw [if_pos c]; rfl, q⟩
@[simp] theorem wp_mSigns {m : M Dt} {Q : List Dt × Gd → En → Prop} : Wp (mSigns m) ρ Q ↔ Wp m ρ fun d ρ1 => ∃ x, d = .str x ∧ Q (signD x, []) ρ1 := by
  unfold mSigns
  rw [wp_bnd]
  constructor
  · rintro ⟨d, ρ1, e, x, ρ2, e2, q⟩
    (try dsimp only at e2)
    split at e2
    · obtain ⟨rfl, rfl⟩ := ret_some e2
      exact ⟨_, _, e, _, rfl, q⟩
    · cases e2
  · rintro ⟨d, ρ1, e, x, rfl, q⟩
    exact ⟨_, ρ1, e, _, ρ1, rfl, q⟩
/-- one statement ahead, the rest kept out of sight -/
theorem wp_seqI {a b : MS} {Q : Out → En → Prop} (h : ∀ K : Out → En → Prop, (∀ ρ1, Wp b ρ1 Q → K .nx ρ1) → (∀ r ρ1, Q (.rt r) ρ1 → K (.rt r) ρ1) → (∀ ρ1, Q .bk ρ1 → K .bk ρ1) → (∀ ρ1, Q .ct ρ1 → K .ct ρ1) → Wp a ρ K) : Wp (mSeq a b) ρ Q :=
  wp_mSeq.mpr (h _ (fun _ h => h) (fun _ _ h => h) (fun _ h => h) (fun _ h => h))
theorem wpF_of {N : Nat} {b : MS} {svs : List SV} {Q : Ret → List SV → Prop} (h : ∀ K : Out → En → Prop, (∀ r ρ, Q r (outOf svs ρ) → K (.rt r) ρ) → (∀ ρ, Q (.val .none) (outOf svs ρ) → K .nx ρ) → Wp b (svs ++ List.replicate (N - svs.length) .no) K) : WpF (fnOf N b) svs Q :=
  wpF_fnOf.mpr (h _ (fun _ _ h => h) (fun _ h => h))
end
end DL
end
section
set_option maxRecDepth 100000
set_option maxHeartbeats 4000000
/-! DM2: the same, step by step: rules whose rest stays out of sight. -/
namespace DL
open PySem L2
section
variable {α β : Type} {ρ : En}
/-! an operator behind its operands -/
def OpK (f : Dt → Dt → Option Dt) (Q : Dt → En → Prop) (o1 o2 : Option Dt) (ρ : En) : Prop := ∃ p q z, o1 = some p ∧ o2 = some q ∧ f p q = some z ∧ Q z ρ
def OpNK (f : Dt → Dt → Option SV) (Q : SV → En → Prop) (o1 o2 : Option Dt) (ρ : En) : Prop := ∃ p q z, o1 = some p ∧ o2 = some q ∧ f p q = some z ∧ Q z ρ
def C1K {γ : Type} (f : Dt → Option γ) (Q : γ → En → Prop) (o1 : Option Dt) (ρ : En) : Prop := ∃ p z, o1 = some p ∧ f p = some z ∧ Q z ρ
/-- a bool that decides -/
def TstK (Q : Bool → En → Prop) (d : Dt) (ρ : En) : Prop := ∃ b, d = .bool b ∧ Q b ρ
def IfK (P R : En → Prop) (k : Bool) (ρ : En) : Prop := if k then P ρ else R ρ
def SeqK (b : MS) (Q : Out → En → Prop) : Out → En → Prop
  | .nx, ρ => Wp b ρ Q
  | o, ρ => Q o ρ
def TgK (g : MG) (Q : Out → En → Prop) (d : Dt) (ρ : En) : Prop := ∃ ρ2, g d ρ = some ρ2 ∧ Q .nx ρ2
def LsK (f : List Dt → Option (Dt × List Dt)) (i : Nat) (Q : Dt → En → Prop) (s : Option SV) (ρ : En) : Prop := ∃ p ds d ds', s = some (.lst p ds) ∧ f ds = some (d, ds') ∧ Q d (ρ.set i (.lst p ds'))
def SvK (Q : Dt → En → Prop) (s : SV) (ρ : En) : Prop := ∃ d, svD s = some d ∧ Q d ρ
def ValK (Q : List Dt → En → Prop) (bs : List BR) (ρ : En) : Prop := ∃ ds, vals bs = some ds ∧ ds.length ≤ LIM ∧ Q ds ρ
def IntK (Q : Int → En → Prop) (d : Dt) (ρ : En) : Prop := ∃ i, d = .int i ∧ Q i ρ
def OptK {γ : Type} (o : Option γ) (Q : γ → En → Prop) (ρ : En) : Prop := ∃ d, o = some d ∧ Q d ρ
def LstK (Q : List Dt → En → Prop) (o : Option Dt) (ρ : En) : Prop := ∃ ds, o = some (.list ds) ∧ Q ds ρ
def PutK (o : Option En) (Q : Out → En → Prop) : Prop := ∃ ρ2, o = some ρ2 ∧ Q .nx ρ2
def CallK (m : Fnm) (Q : Ret → En → Prop) (bs : List BR) (ρ1 : En) : Prop := (ownIx bs).Nodup ∧ ∃ svs, argSVs ρ1 bs = some svs ∧ WpF m svs fun r out => Q r (putBack ρ1 bs out)
def AndK (b : Bool) (p : Prop) : Prop := b = true ∧ p
def GetK (k : Dt) (Q : Dt → Prop) (s : Option SV) : Prop := ∃ p0 ds0 a, s = some (.lst p0 ds0) ∧ fGet ds0 k = some a ∧ Q a
theorem svk_ok {s : SV} {d : Dt} {Q : Dt → En → Prop} (e : svD s = some d) (h : Q d ρ) : SvK Q s ρ := ⟨d, e, h⟩
theorem valk_ok {bs : List BR} {ds : List Dt} {Q : List Dt → En → Prop} (e : vals bs = some ds) (l : ds.length ≤ LIM) (h : Q ds ρ) : ValK Q bs ρ := ⟨ds, e, l, h⟩
theorem intk_ok {i : Int} {Q : Int → En → Prop} (h : Q i ρ) : IntK Q (.int i) ρ := ⟨i, rfl, h⟩
theorem optk_ok {γ : Type} {o : Option γ} {d : γ} {Q : γ → En → Prop} (e : o = some d) (h : Q d ρ) : OptK o Q ρ := ⟨d, e, h⟩
theorem lstk_ok {o : Option Dt} {ds : List Dt} {Q : List Dt → En → Prop} (e : o = some (.list ds)) (h : Q ds ρ) : LstK Q o ρ := ⟨ds, e, h⟩
theorem putk_ok {o : Option En} {ρ2 : En} {Q : Out → En → Prop} (e : o = some ρ2) (h : Q .nx ρ2) : PutK o Q := ⟨ρ2, e, h⟩
theorem callk_ok {m : Fnm} {Q : Ret → En → Prop} {bs : List BR} {svs : List SV} (n : (ownIx bs).Nodup) (e : argSVs ρ bs = some svs) (h : WpF m svs fun r out => Q r (putBack ρ bs out)) : CallK m Q bs ρ := ⟨n, svs, e, h⟩
theorem andk_ok {b : Bool} {p : Prop} (e : b = true) (h : p) : AndK b p := ⟨e, h⟩
theorem getk_ok {k : Dt} {Q : Dt → Prop} {s : Option SV} {p0 : Bool} {ds0 : List Dt} {a : Dt} (e : s = some (.lst p0 ds0)) (e2 : fGet ds0 k = some a) (h : Q a) : GetK k Q s := ⟨p0, ds0, a, e, e2, h⟩
theorem ws_mOp {f : Dt → Dt → Option Dt} {a b : M BR} {Q : Dt → En → Prop} (h : Wp a ρ fun x ρ1 => Wp b ρ1 fun y ρ2 => OpK f Q (brD ρ2 x) (brD ρ2 y) ρ2) : Wp (mOp f a b) ρ Q := wp_mOp.mpr h
theorem ws_mOpN {f : Dt → Dt → Option SV} {a b : M BR} {Q : SV → En → Prop} (h : Wp a ρ fun x ρ1 => Wp b ρ1 fun y ρ2 => OpNK f Q (brD ρ2 x) (brD ρ2 y) ρ2) : Wp (mOpN f a b) ρ Q := wp_mOpN.mpr h
theorem ws_mC1 {f : Dt → Option Dt} {a : M BR} {Q : Dt → En → Prop} (h : Wp a ρ fun x ρ1 => C1K f Q (brD ρ1 x) ρ1) : Wp (mC1 f a) ρ Q := wp_mC1.mpr h
theorem ws_mC1N {f : Dt → Option SV} {a : M BR} {Q : SV → En → Prop} (h : Wp a ρ fun x ρ1 => C1K f Q (brD ρ1 x) ρ1) : Wp (mC1N f a) ρ Q := wp_mC1N.mpr h
theorem ws_mVB {i : Nat} {b : BR} {Q : BR → En → Prop} (e : brOf i ρ[i]? = some b) (h : Q b ρ) : Wp (mVB i) ρ Q := wp_mVB.mpr ⟨b, e, h⟩
theorem ws_mV {i : Nat} {b : Dt} {Q : Dt → En → Prop} (e : ρ[i]? = some (.imm b)) (h : Q b ρ) : Wp (mV i) ρ Q := wp_mV.mpr ⟨b, e, h⟩
theorem ws_mB {m : M Dt} {Q : BR → En → Prop} (h : Wp m ρ fun d ρ1 => Q (.val d) ρ1) : Wp (mB m) ρ Q := wp_mB.mpr h
theorem ws_mFz {m : M SV} {Q : Dt → En → Prop} (h : Wp m ρ (SvK Q)) : Wp (mFz m) ρ Q := wp_mFz.mpr h
theorem ws_ret {a : α} {Q : α → En → Prop} (h : Q a ρ) : Wp (ret a) ρ Q := wp_ret.mpr h
theorem ws_mTst {m : M Dt} {Q : Bool → En → Prop} (h : Wp m ρ (TstK Q)) : Wp (mTst m) ρ Q := wp_mTst.mpr h
theorem ws_mIfS {c : M Bool} {a b : MS} {Q : Out → En → Prop} (h : Wp c ρ (IfK (fun ρ1 => Wp a ρ1 Q) fun ρ1 => Wp b ρ1 Q)) : Wp (mIfS c a b) ρ Q := wp_mIfS.mpr h
theorem ws_mIf {c : M Bool} {a b : M α} {Q : α → En → Prop} (h : Wp c ρ (IfK (fun ρ1 => Wp a ρ1 Q) fun ρ1 => Wp b ρ1 Q)) : Wp (mIf c a b) ρ Q := wp_mIf.mpr h
theorem ws_mAnd {a b : M Bool} {Q : Bool → En → Prop} (h : Wp a ρ (IfK (fun ρ1 => Wp b ρ1 Q) (Q false))) : Wp (mAnd a b) ρ Q := wp_mAnd.mpr h
theorem ws_mOr {a b : M Bool} {Q : Bool → En → Prop} (h : Wp a ρ (IfK (Q true) fun ρ1 => Wp b ρ1 Q)) : Wp (mOr a b) ρ Q := wp_mOr.mpr h
theorem ws_mNot {a : M Bool} {Q : Bool → En → Prop} (h : Wp a ρ fun k ρ1 => Q (!k) ρ1) : Wp (mNot a) ρ Q := wp_mNot.mpr h
theorem ws_mSeq {a b : MS} {Q : Out → En → Prop} (h : Wp a ρ (SeqK b Q)) : Wp (mSeq a b) ρ Q := wp_mSeq.mpr (h.mono fun o ρ1 k => by cases o <;> exact k)
theorem ws_nx {b : MS} {Q : Out → En → Prop} (h : Wp b ρ Q) : SeqK b Q .nx ρ := h
theorem ws_rt {b : MS} {Q : Out → En → Prop} {r : Ret} (h : Q (.rt r) ρ) : SeqK b Q (.rt r) ρ := h
theorem ws_bk {b : MS} {Q : Out → En → Prop} (h : Q .bk ρ) : SeqK b Q .bk ρ := h
theorem ws_ct {b : MS} {Q : Out → En → Prop} (h : Q .ct ρ) : SeqK b Q .ct ρ := h
theorem ws_mNext {Q : Out → En → Prop} (h : Q .nx ρ) : Wp mNext ρ Q := wp_mNext.mpr h
theorem ws_mRet {m : M Dt} {Q : Out → En → Prop} (h : Wp m ρ fun d ρ1 => Q (.rt (.val d)) ρ1) : Wp (mRet m) ρ Q := wp_mRet.mpr h
theorem ws_mRetN {m : M SV} {Q : Out → En → Prop} (h : Wp m ρ fun d ρ1 => Q (.rt (.new d)) ρ1) : Wp (mRetN m) ρ Q := wp_mRetN.mpr h
theorem ws_mRetF {m : M Dt} {Q : Out → En → Prop} (h : Wp m (ρ.map frzSV) fun d ρ1 => Q (.rt (.val d)) ρ1) : Wp (mRetF m) ρ Q := wp_mRetF.mpr h
theorem ws_mRetV {i : Nat} {s : SV} {Q : Out → En → Prop} (e : ownRet ρ[i]? = some s) (h : Q (.rt (.new s)) ρ) : Wp (mRetV i) ρ Q := wp_mRetV.mpr ⟨s, e, h⟩
theorem ws_mDrop {m : M Dt} {Q : Out → En → Prop} (h : Wp m ρ fun _ ρ1 => Q .nx ρ1) : Wp (mDrop m) ρ Q := wp_mDrop.mpr h
theorem ws_mAsg {m : M Dt} {g : MG} {Q : Out → En → Prop} (h : Wp m ρ (TgK g Q)) : Wp (mAsg m g) ρ Q := wp_mAsg.mpr h
theorem ws_mAsgN {m : M SV} {i : Nat} {Q : Out → En → Prop} (h : Wp m ρ fun d ρ1 => PutK (putS i d ρ1) Q) : Wp (mAsgN m i) ρ Q := wp_mAsgN.mpr h
theorem ws_tg {g : MG} {Q : Out → En → Prop} {d : Dt} {ρ2 : En} (e : g d ρ = some ρ2) (h : Q .nx ρ2) : TgK g Q d ρ := ⟨ρ2, e, h⟩
theorem ws_mNil {Q : List BR → En → Prop} (h : Q [] ρ) : Wp mNil ρ Q := wp_mNil.mpr h
theorem ws_mCons {a : M BR} {r : M (List BR)} {Q : List BR → En → Prop} (h : Wp a ρ fun x ρ1 => Wp r ρ1 fun xs ρ2 => Q (x :: xs) ρ2) : Wp (mCons a r) ρ Q := wp_mCons.mpr h
theorem ws_mTup {m : M (List BR)} {Q : Dt → En → Prop} (h : Wp m ρ (ValK fun ds => Q (.tuple ds))) : Wp (mTup m) ρ Q := wp_mTup.mpr h
theorem ws_mLst {m : M (List BR)} {Q : SV → En → Prop} (h : Wp m ρ (ValK fun ds => Q (.lst false ds))) : Wp (mLst m) ρ Q := wp_mLst.mpr h
theorem ws_mNoP {Q : Option Int → En → Prop} (h : Q none ρ) : Wp mNoP ρ Q := wp_mNoP.mpr h
theorem ws_mPart {m : M Dt} {Q : Option Int → En → Prop} (h : Wp m ρ (IntK fun i => Q (some i))) : Wp (mPart m) ρ Q := wp_mPart.mpr h
theorem ws_mSl {m : M BR} {l h' : M (Option Int)} {Q : Dt → En → Prop} (h : Wp m ρ fun x ρ1 => Wp l ρ1 fun lo ρ2 => Wp h' ρ2 fun hi ρ3 => OptK (dSl (brD ρ3 x) lo hi) Q ρ3) : Wp (mSl m l h') ρ Q := wp_mSl.mpr h
theorem ws_mSlL {m : M BR} {l h' : M (Option Int)} {Q : SV → En → Prop} (h : Wp m ρ fun x ρ1 => Wp l ρ1 fun lo ρ2 => Wp h' ρ2 fun hi ρ3 => LstK (fun ds => Q (.lst false (cutL ds lo hi))) (brD ρ3 x) ρ3) : Wp (mSlL m l h') ρ Q := wp_mSlL.mpr h
theorem ws_mSetL {me mi : M Dt} {i : Nat} {Q : Out → En → Prop} (h : Wp me ρ fun y ρ1 => AndK (isLst ρ1[i]?) (Wp mi ρ1 fun k ρ2 => LsK (fun ds => fSet ds k y) i (fun _ => Q .nx) ρ2[i]? ρ2)) : Wp (mSetL me i mi) ρ Q := wp_mSetL.mpr h
theorem ws_mAugS {mi me : M Dt} {i : Nat} {f : Dt → Dt → Option Dt} {Q : Out → En → Prop} (h : AndK (isLst ρ[i]?) (Wp mi ρ fun k ρ1 => GetK k (fun a => Wp me ρ1 fun b ρ2 => OptK (f a b) (fun z ρ2 => LsK (fun ds => fSet ds k z) i (fun _ => Q .nx) ρ2[i]? ρ2) ρ2) ρ1[i]?)) : Wp (mAugS i mi f me) ρ Q := wp_mAugS.mpr h
theorem ws_mMtE {i : Nat} {f : List Dt → Dt → Option (Dt × List Dt)} {m : M Dt} {Q : Dt → En → Prop} (h : AndK (isLst ρ[i]?) (Wp m ρ fun x ρ1 => LsK (fun ds => f ds x) i Q ρ1[i]? ρ1)) : Wp (mMtE i f m) ρ Q := wp_mMtE.mpr h
theorem ws_mCall {m : Fnm} {ma : M (List BR)} {Q : Ret → En → Prop} (h : Wp ma ρ (CallK m Q)) : Wp (mCall m ma) ρ Q := wp_mCall.mpr h
theorem ws_mRE {m : M Ret} {Q : Dt → En → Prop} (h : Wp m ρ fun r ρ1 => OptK (retD r) Q ρ1) : Wp (mRE m) ρ Q := wp_mRE.mpr h
theorem ws_mRN {m : M Ret} {Q : SV → En → Prop} (h : Wp m ρ fun r ρ1 => OptK (retN r) Q ρ1) : Wp (mRN m) ρ Q := wp_mRN.mpr h
theorem ws_mIsN {n : Bool} {m : M Dt} {Q : Dt → En → Prop} (h : Wp m ρ fun d ρ1 => Q (.bool (n ^^ isNoneD d)) ρ1) : Wp (mIsN n m) ρ Q := wp_mIsN.mpr h
theorem ws_mNeg {m : M Dt} {Q : Dt → En → Prop} (h : Wp m ρ (IntK fun i => Q (.int (-i)))) : Wp (mNeg m) ρ Q := wp_mNeg.mpr h
/-! loops, what is walked -/
def ChK (o : Option Dt) (R : Bool → En → Prop) (ρ : En) : Prop := ∃ k, o = some (.bool k) ∧ R k ρ
theorem chk_ok {o : Option Dt} {R : Bool → En → Prop} {k : Bool} (e : o = some (.bool k)) (h : R k ρ) : ChK o R ρ := ⟨k, e, h⟩

def ForK (g : MG) (b : MS) (Q : Out → En → Prop) (x : List Dt × Gd) (ρ : En) : Prop := x.2 = [] ∧ Wp (mForL g b x.1) ρ Q
def StrK (Q : Str → En → Prop) (d : Dt) (ρ : En) : Prop := ∃ x, d = .str x ∧ Q x ρ
def LcK (vs : List Nat) (g : MG) (mb : MA) (Q : SV → En → Prop) (x : List Dt × Gd) (ρ1 : En) : Prop := noOwn ρ1 vs = true ∧ (x.2.all fun g => decide (g.1 ∉ vs)) = true ∧ Wp (lcGo x.2 vs g mb x.1 []) (wipeE ρ1 vs) fun acc' ρ2 => Q (.lst false acc') (backE ρ1 ρ2 vs)
def RngK (Q : List Dt × Gd → En → Prop) (d : Dt) (ρ : En) : Prop := ∃ j : Int, d = .int j ∧ (-1000000 ≤ j ∧ j ≤ 1000000) ∧ Q (rangeD 0 j.toNat, []) ρ
theorem ws_mFor {mi : M (List Dt × Gd)} {g : MG} {b : MS} {Q : Out → En → Prop} (h : Wp mi ρ (ForK g b Q)) : Wp (mFor mi g b) ρ Q := wp_mFor.mpr h
theorem fork_ok {g : MG} {b : MS} {ds : List Dt} {Q : Out → En → Prop} (h : Wp (mForL g b ds) ρ Q) : ForK g b Q (ds, []) ρ := ⟨rfl, h⟩
theorem ws_mSigns {m : M Dt} {Q : List Dt × Gd → En → Prop} (h : Wp m ρ (StrK fun x => Q (signD x, []))) : Wp (mSigns m) ρ Q := wp_mSigns.mpr h
theorem strk_ok {x : Str} {Q : Str → En → Prop} (h : Q x ρ) : StrK Q (.str x) ρ := ⟨x, rfl, h⟩
theorem ws_mSeq1 {m : M BR} {Q : List Dt × Gd → En → Prop} (h : Wp m ρ fun b ρ1 => OptK ((brD ρ1 b).bind seqD) (fun ds => Q (ds, gIx ds b)) ρ1) : Wp (mSeq1 m) ρ Q := wp_mSeq1.mpr h
theorem ws_mEnum {m : M BR} {Q : List Dt × Gd → En → Prop} (h : Wp m ρ fun b ρ1 => OptK ((brD ρ1 b).bind seqD) (fun ds => Q (enumD ds, gIx ds b)) ρ1) : Wp (mEnum m) ρ Q := wp_mEnum.mpr (wp_mSeq1.mpr h)
theorem ws_mRng1 {m : M Dt} {Q : List Dt × Gd → En → Prop} (h : Wp m ρ (RngK Q)) : Wp (mRng1 m) ρ Q := wp_mRng1.mpr h
theorem rngk_ok {j : Int} {Q : List Dt × Gd → En → Prop} (c : -1000000 ≤ j ∧ j ≤ 1000000) (h : Q (rangeD 0 j.toNat, []) ρ) : RngK Q (.int j) ρ := ⟨j, rfl, c, h⟩
theorem ws_mLc {mi : M (List Dt × Gd)} {vs : List Nat} {g : MG} {mb : MA} {Q : SV → En → Prop} (h : Wp mi ρ (LcK vs g mb Q)) : Wp (mLc mi vs g mb) ρ Q := wp_mLc.mpr h
theorem lck_ok {vs : List Nat} {g : MG} {mb : MA} {ds : List Dt} {gs : Gd} {Q : SV → En → Prop} (h1 : noOwn ρ vs = true) (h2 : (gs.all fun g => decide (g.1 ∉ vs)) = true) (h : Wp (lcGo gs vs g mb ds []) (wipeE ρ vs) fun acc' ρ2 => Q (.lst false acc') (backE ρ ρ2 vs)) : LcK vs g mb Q (ds, gs) ρ := ⟨h1, h2, h⟩
theorem ws_mYes {Q : Bool → En → Prop} (h : Q true ρ) : Wp mYes ρ Q := wp_mYes.mpr h
theorem ws_mLeaf {t : M Bool} {el : M Dt} {acc : List Dt} {Q : List Dt → En → Prop} (h : Wp t ρ (IfK (fun ρ1 => Wp el ρ1 fun x ρ2 => acc.length < LIM ∧ Q (acc ++ [x]) ρ2) (Q acc))) : Wp (mLeaf t el acc) ρ Q := wp_mLeaf.mpr h
theorem if_t {P R : En → Prop} (h : P ρ) : IfK P R true ρ := h
theorem if_f {P R : En → Prop} (h : R ρ) : IfK P R false ρ := h
theorem ws_mIsStr {m : M Dt} {Q : Dt → En → Prop} (h : Wp m ρ (StrK fun _ => Q (.bool true))) : Wp (mIsStr m) ρ Q := by
  obtain ⟨d, ρ1, e, x, rfl, q⟩ := h
  unfold mIsStr
  rw [wp_bnd]
  exact ⟨_, ρ1, e, _, ρ1, rfl, q⟩
theorem ws_mChain {f f' : Dt → Dt → Option Dt} {a b c : M Dt} {Q : Dt → En → Prop} (h : Wp a ρ fun x ρ1 => Wp b ρ1 fun y ρ2 => ChK (f x y) (IfK (fun ρ2 => Wp c ρ2 fun z ρ3 => OptK (f' y z) Q ρ3) (Q (.bool false))) ρ2) : Wp (mChain f f' a b c) ρ Q := wp_mChain.mpr h
theorem ws_mS1 {f : Str → Dt → Option Dt} {mo : M Dt} {me : M BR} {Q : Dt → En → Prop} (h : Wp mo ρ (StrK fun z ρ1 => Wp me ρ1 fun y ρ2 => ∃ d, brD ρ2 y = some d ∧ OptK (f z d) Q ρ2)) : Wp (mS1 f mo me) ρ Q := by
  obtain ⟨d, ρ1, e, x, rfl, y, ρ2, e2, dy, h1, z, h2, q⟩ := h
  unfold mS1
  rw [wp_bnd]
  refine ⟨_, ρ1, e, ?_⟩
  simp only [wp_bnd]
  exact ⟨y, ρ2, e2, z, ρ2, by dsimp only; rw [h1]; dsimp only; rw [h2]; rfl, q⟩
theorem ws_mS1N {f : Str → Dt → Option (List Str)} {mo me : M Dt} {Q : SV → En → Prop} (h : Wp mo ρ (StrK fun z ρ1 => Wp me ρ1 fun y ρ2 => OptK (f z y) (fun ys => Q (strL ys)) ρ2)) : Wp (mS1N f mo me) ρ Q := by
  obtain ⟨d, ρ1, e, x, rfl, y, ρ2, e2, z, h2, q⟩ := h
  unfold mS1N
  rw [wp_bnd]
  refine ⟨_, ρ1, e, ?_⟩
  simp only [wp_bnd, wp_lft, wp_ret]
  exact ⟨y, ρ2, e2, z, h2, q⟩
theorem ws_mS2N {f : Str → Dt → Dt → Option (List Str)} {mo me me2 : M Dt} {Q : SV → En → Prop} (h : Wp mo ρ (StrK fun z ρ1 => Wp me ρ1 fun y ρ2 => Wp me2 ρ2 fun y2 ρ3 => OptK (f z y y2) (fun ys => Q (strL ys)) ρ3)) : Wp (mS2N f mo me me2) ρ Q := by
  obtain ⟨d, ρ1, e, x, rfl, y, ρ2, e2, y2, ρ3, e3, z, h2, q⟩ := h
  unfold mS2N
  rw [wp_bnd]
  refine ⟨_, ρ1, e, ?_⟩
  simp only [wp_bnd, wp_lft, wp_ret]
  exact ⟨y, ρ2, e2, y2, ρ3, e3, z, h2, q⟩
theorem ws_mMt0 {i : Nat} {f : List Dt → Option (Dt × List Dt)} {Q : Dt → En → Prop} (h : LsK f i Q ρ[i]? ρ) : Wp (mMt0 i f) ρ Q := wp_mMt0.mpr h
theorem ws_mMt1 {i : Nat} {f : List Dt → Dt → Option (Dt × List Dt)} {m : M BR} {Q : Dt → En → Prop} (h : AndK (isLst ρ[i]?) (Wp m ρ fun b ρ1 => ∃ x, brD ρ1 b = some x ∧ LsK (fun ds => f ds x) i Q ρ1[i]? ρ1)) : Wp (mMt1 i f m) ρ Q := wp_mMt1.mpr h
theorem ws_mMt2 {i : Nat} {f : List Dt → Dt → Dt → Option (Dt × List Dt)} {m n : M Dt} {Q : Dt → En → Prop} (h : AndK (isLst ρ[i]?) (Wp m ρ fun x ρ1 => Wp n ρ1 fun y ρ2 => LsK (fun ds => f ds x y) i Q ρ2[i]? ρ2)) : Wp (mMt2 i f m n) ρ Q := wp_mMt2.mpr h
theorem ws_mPar {is : List Nat} {ms : List (M SV)} {Q : Out → En → Prop} (h : Wp (mXs ms) ρ fun ss ρ1 => PutK (putSs is ss ρ1) Q) : Wp (mPar is ms) ρ Q := wp_mPar.mpr h
theorem ws_mXs_nil {Q : List SV → En → Prop} (h : Q [] ρ) : Wp (mXs []) ρ Q := wp_mXs_nil.mpr h
theorem ws_mXs_cons {m : M SV} {ms : List (M SV)} {Q : List SV → En → Prop} (h : Wp m ρ fun x ρ1 => Wp (mXs ms) ρ1 fun xs ρ2 => Q (x :: xs) ρ2) : Wp (mXs (m :: ms)) ρ Q := wp_mXs_cons.mpr h
theorem ws_mXe {m : M Dt} {Q : SV → En → Prop} (h : Wp m ρ fun d ρ1 => Q (.imm d) ρ1) : Wp (mXe m) ρ Q := wp_mXe.mpr h
theorem ws_mAug {i : Nat} {f : Dt → Dt → Option Dt} {m : M Dt} {a : Dt} {Q : Out → En → Prop} (e : ρ[i]? = some (.imm a)) (h : Wp m ρ fun b ρ1 => OptK (f a b) (fun z ρ1 => PutK (mgN i z ρ1) Q) ρ1) : Wp (mAug i f m) ρ Q := wp_mAug.mpr ⟨a, e, h⟩
theorem ws_bkk {Q : Out → En → Prop} (h : Q .bk ρ) : Wp (ret .bk) ρ Q := wp_ret.mpr h
theorem ws_mStar {a : M BR} {r : M (List BR)} {Q : List BR → En → Prop} (h : Wp a ρ fun x ρ1 => OptK ((brD ρ1 x).bind seqD) (fun ds ρ1 => Wp r ρ1 fun xs ρ2 => Q (ds.map BR.val ++ xs) ρ2) ρ1) : Wp (mStar a r) ρ Q := wp_mStar.mpr h
theorem after_nx {next : En → Prop} {Q : Out → En → Prop} (h : next ρ) : after next Q .nx ρ := h
theorem after_ct {next : En → Prop} {Q : Out → En → Prop} (h : next ρ) : after next Q .ct ρ := h
theorem after_bk {next : En → Prop} {Q : Out → En → Prop} (h : Q .nx ρ) : after next Q .bk ρ := h
theorem after_rt {next : En → Prop} {Q : Out → En → Prop} {r : Ret} (h : Q (.rt r) ρ) : after next Q (.rt r) ρ := h
theorem ws_mAndV {a b : M Dt} {Q : Dt → En → Prop} (h : Wp a ρ (TstK (IfK (fun ρ1 => Wp b ρ1 Q) (Q (.bool false))))) : Wp (mAndV a b) ρ Q := wp_mAndV.mpr h
theorem ws_mOrV {a b : M Dt} {Q : Dt → En → Prop} (h : Wp a ρ (TstK (IfK (Q (.bool true)) (fun ρ1 => Wp b ρ1 Q)))) : Wp (mOrV a b) ρ Q := wp_mOrV.mpr h
theorem ws_mNotV {m : M Dt} {Q : Dt → En → Prop} (h : Wp m ρ (TstK fun b => Q (.bool (!b)))) : Wp (mNotV m) ρ Q := wp_mNotV.mpr h
theorem if_nt {P R : En → Prop} (h : R ρ) : IfK P R (!true) ρ := h
theorem if_nf {P R : En → Prop} (h : P ρ) : IfK P R (!false) ρ := h
/-- a comprehension that leaves the rest as it was: F d what the item d adds -/
theorem wp_lc_flat {gs : Gd} {vs : List Nat} {g : MG} {el : MA} {Q : List Dt → En → Prop} {ds : List Dt} (F : Dt → List Dt) (hF : ∀ d, (F d).length ≤ 1) (hl : ds.length ≤ LIM) (hgd : GuardOk ρ gs)
    (step : ∀ d ∈ ds, ∀ acc : List Dt, acc.length < LIM → ∃ ρ1, g d ρ = some ρ1 ∧ Wp (el acc) ρ1 fun acc' ρ2 => acc' = acc ++ F d ∧ wipeE ρ2 vs = ρ)
    (fin : Q (ds.flatMap F) ρ) : Wp (lcGo gs vs g el ds []) ρ Q := by
  refine wp_lcGo (fun done rest acc ρ' => acc = done.flatMap F ∧ ρ' = ρ) ⟨rfl, rfl⟩ (fun done d rest acc ρ' e ⟨e1, e2⟩ => ?_) (fun acc ρ' ⟨e1, e2⟩ => by subst e1 e2; exact fin)
  subst e1 e2
  have hlen : ∀ l : List Dt, (l.flatMap F).length ≤ l.length := fun l => by
    induction l with
    | nil => simp
    | cons a r ih => simp only [List.flatMap_cons, List.length_append, List.length_cons]; have := hF a; omega
  have hd : done.length < ds.length := by rw [e]; simp
  obtain ⟨ρ1, h1, w⟩ := step d (by rw [e]; simp) (done.flatMap F) (by have := hlen done; omega)
  refine ⟨ρ1, h1, w.mono fun acc' ρ2 ⟨k1, k2⟩ => ?_⟩
  rw [k2]
  exact ⟨hgd, by rw [k1]; simp, rfl⟩
/-! operators at their operands -/
variable {o1 o2 : Option Dt} {i j : Int} {Q : Dt → En → Prop}
theorem op_any {f : Dt → Dt → Option Dt} {p q z : Dt} (h1 : o1 = some p) (h2 : o2 = some q) (h3 : f p q = some z) (h : Q z ρ) : OpK f Q o1 o2 ρ := ⟨p, q, z, h1, h2, h3, h⟩
theorem opN_any {f : Dt → Dt → Option SV} {p q : Dt} {z : SV} {Q : SV → En → Prop} (h1 : o1 = some p) (h2 : o2 = some q) (h3 : f p q = some z) (h : Q z ρ) : OpNK f Q o1 o2 ρ := ⟨p, q, z, h1, h2, h3, h⟩
theorem c1_any {γ : Type} {f : Dt → Option γ} {p : Dt} {z : γ} {Q : γ → En → Prop} (h1 : o1 = some p) (h3 : f p = some z) (h : Q z ρ) : C1K f Q o1 ρ := ⟨p, z, h1, h3, h⟩
theorem dMod_ok (c : 0 < j) : dMod (.int i) (.int j) = some (.int (i % j)) := if_pos c
theorem dFdiv_ok (c : 0 < j ∧ j < 1073741824) : dFdiv (.int i) (.int j) = some (.int (i / j)) := if_pos c
theorem dMul_ok (c : (-(2 ^ 64) < i ∧ i < 2 ^ 64) ∨ (-(2 ^ 64) < j ∧ j < 2 ^ 64)) : dMul (.int i) (.int j) = some (.int (i * j)) := if_pos c
theorem dMul_l (c : -(2 ^ 64) < i ∧ i < 2 ^ 64) : dMul (.int i) (.int j) = some (.int (i * j)) := if_pos (Or.inl c)
theorem dMul_r (c : -(2 ^ 64) < j ∧ j < 2 ^ 64) : dMul (.int i) (.int j) = some (.int (i * j)) := if_pos (Or.inr c)
theorem dPow_ok (c : 0 ≤ j ∧ j ≤ 1000000 ∧ i.natAbs < 2 ^ 64) : dPow (.int i) (.int j) = some (.int (i ^ j.toNat)) := if_pos c
theorem dAdd_str {x y : Str} (c : x.length + y.length ≤ LIM) : dAdd (.str x) (.str y) = some (.str (x ++ y)) := if_pos c
theorem dAdd_tup {x y : List Dt} (c : x.length + y.length ≤ LIM) : dAdd (.tuple x) (.tuple y) = some (.tuple (x ++ y)) := if_pos c
theorem catL_ok {x y : List Dt} (c : x.length + y.length ≤ LIM) : catL (.list x) (.list y) = some (.lst false (x ++ y)) := if_pos c
theorem dIx_L0 {a0 : Dt} {r : List Dt} : dIx (.list (a0 :: r)) (.int 0) = some a0 := by
  show atI _ _ = _
  unfold atI ixN
  rw [if_pos (by decide), if_pos (by simp only [List.length_cons]; omega)]
  rfl
theorem dIx_L1 {a0 a1 : Dt} {r : List Dt} : dIx (.list (a0 :: a1 :: r)) (.int 1) = some a1 := by
  show atI _ _ = _
  unfold atI ixN
  rw [if_pos (by decide), if_pos (by simp only [List.length_cons]; omega)]
  rfl
theorem dIx_L2 {a0 a1 a2 : Dt} {r : List Dt} : dIx (.list (a0 :: a1 :: a2 :: r)) (.int 2) = some a2 := by
  show atI _ _ = _
  unfold atI ixN
  rw [if_pos (by decide), if_pos (by simp only [List.length_cons]; omega)]
  rfl
theorem dIx_L3 {a0 a1 a2 a3 : Dt} {r : List Dt} : dIx (.list (a0 :: a1 :: a2 :: a3 :: r)) (.int 3) = some a3 := by
  show atI _ _ = _
  unfold atI ixN
  rw [if_pos (by decide), if_pos (by simp only [List.length_cons]; omega)]
  rfl
theorem dIx_L4 {a0 a1 a2 a3 a4 : Dt} {r : List Dt} : dIx (.list (a0 :: a1 :: a2 :: a3 :: a4 :: r)) (.int 4) = some a4 := by
  show atI _ _ = _
  unfold atI ixN
  rw [if_pos (by decide), if_pos (by simp only [List.length_cons]; omega)]
  rfl
theorem dIx_T0 {a0 : Dt} {r : List Dt} : dIx (.tuple (a0 :: r)) (.int 0) = some a0 := by
  show atI _ _ = _
  unfold atI ixN
  rw [if_pos (by decide), if_pos (by simp only [List.length_cons]; omega)]
  rfl
theorem dIx_T1 {a0 a1 : Dt} {r : List Dt} : dIx (.tuple (a0 :: a1 :: r)) (.int 1) = some a1 := by
  show atI _ _ = _
  unfold atI ixN
  rw [if_pos (by decide), if_pos (by simp only [List.length_cons]; omega)]
  rfl
theorem dIx_T2 {a0 a1 a2 : Dt} {r : List Dt} : dIx (.tuple (a0 :: a1 :: a2 :: r)) (.int 2) = some a2 := by
  show atI _ _ = _
  unfold atI ixN
  rw [if_pos (by decide), if_pos (by simp only [List.length_cons]; omega)]
  rfl
theorem dIx_T3 {a0 a1 a2 a3 : Dt} {r : List Dt} : dIx (.tuple (a0 :: a1 :: a2 :: a3 :: r)) (.int 3) = some a3 := by
  show atI _ _ = _
  unfold atI ixN
  rw [if_pos (by decide), if_pos (by simp only [List.length_cons]; omega)]
  rfl
theorem dIx_T4 {a0 a1 a2 a3 a4 : Dt} {r : List Dt} : dIx (.tuple (a0 :: a1 :: a2 :: a3 :: a4 :: r)) (.int 4) = some a4 := by
  show atI _ _ = _
  unfold atI ixN
  rw [if_pos (by decide), if_pos (by simp only [List.length_cons]; omega)]
  rfl
theorem dIx_LN {ds : List Dt} {k : Nat} {d : Dt} (h : ds[k]? = some d) : dIx (.list ds) (.int (k : Int)) = some d := by
  have hl := (List.getElem?_eq_some_iff.mp h).1
  show atI _ _ = _
  unfold atI ixN
  rw [if_pos (by omega), if_pos (by omega)]
  simpa using h
theorem dIx_TN {ds : List Dt} {k : Nat} {d : Dt} (h : ds[k]? = some d) : dIx (.tuple ds) (.int (k : Int)) = some d := dIx_LN (ds := ds) h
theorem fSet_at {ds : List Dt} {k : Nat} {y : Dt} (h : k < ds.length) : fSet ds (.int (k : Int)) y = some (.none, ds.set k y) := by
  unfold fSet ixN
  simp only
  rw [if_pos (by omega), if_pos (by omega)]
  simp
theorem fGet_at {ds : List Dt} {k : Nat} {d : Dt} (h : ds[k]? = some d) : fGet ds (.int (k : Int)) = some d := by
  unfold fGet
  simp only
  rw [if_pos (by omega)]
  simpa using h
theorem fSet_0 {a y : Dt} {r : List Dt} : fSet (a :: r) (.int 0) y = some (.none, y :: r) := fSet_at (k := 0) (by simp)
theorem fSet_1 {a b y : Dt} {r : List Dt} : fSet (a :: b :: r) (.int 1) y = some (.none, a :: y :: r) := fSet_at (k := 1) (by simp)
theorem fSet_2 {a b c y : Dt} {r : List Dt} : fSet (a :: b :: c :: r) (.int 2) y = some (.none, a :: b :: y :: r) := fSet_at (k := 2) (by simp)
theorem fGet_2 {a b c : Dt} {r : List Dt} : fGet (a :: b :: c :: r) (.int 2) = some c := fGet_at (k := 2) rfl
theorem sign_len (c : Nat) : (⟨#[c]⟩ : Str).length = 1 := rfl
theorem ord_sign (c : Nat) : dOrd (.str ⟨#[c]⟩) = some (.int (c : Int)) := by
  have e : dOrd (.str ⟨#[c]⟩) = if (⟨#[c]⟩ : Str).length = 1 then some (.int (((⟨#[c]⟩ : Str).cps.getD 0 0 : Nat) : Int)) else none := rfl
  rw [e, if_pos (sign_len c)]
  rfl
theorem dEq_ok {x y : Dt} (hx : SeqAt.shaped x = true) (hy : SeqAt.shaped y = true) : dEq x y = some (.bool (PyData.eqv x y)) := by
  unfold dEq
  rw [hx, hy]
  simp
theorem dNe_ok {x y : Dt} (hx : SeqAt.shaped x = true) (hy : SeqAt.shaped y = true) : dNe x y = some (.bool (!PyData.eqv x y)) := by
  unfold dNe
  rw [hx, hy]
  simp
theorem shaped_str {x : Str} (h : PyData.strOk x = true) : SeqAt.shaped (.str x) = true := by
  show (PyData.canLay0 (.str x) && decide (PyData.depth (.str x) ≤ 64)) = true
  simp [PyData.canLay0, PyData.depth, h]
theorem tst_ok {b : Bool} {Q : Bool → En → Prop} (h : Q b ρ) : TstK Q (.bool b) ρ := ⟨b, rfl, h⟩
theorem if_ok {P R : En → Prop} {k : Bool} (h1 : k = true → P ρ) (h2 : k = false → R ρ) : IfK P R k ρ := by
  unfold IfK
  cases k with
  | true => exact h1 rfl
  | false => exact h2 rfl
theorem ls_ok {f : List Dt → Option (Dt × List Dt)} {i : Nat} {s : Option SV} {p : Bool} {ds ds' : List Dt} {d : Dt} (h1 : s = some (.lst p ds)) (h2 : f ds = some (d, ds')) (h : Q d (ρ.set i (.lst p ds'))) : LsK f i Q s ρ := ⟨p, ds, d, ds', h1, h2, h⟩
end
end DL
namespace DL
open PySem L2
/-- a name that holds something that is not told -/
theorem ws_tgN {i : Nat} {s : SV} {d : Dt} {ρ : En} {Q : Out → En → Prop} (h : ρ[i]? = some s) (hs : isPin s = false) (k : Q .nx (ρ.set i (.imm d))) : TgK (mgN i) Q d ρ := by
  refine ⟨_, ?_, k⟩
  unfold mgN
  simp only [h, hs]
  rfl
theorem pin_own {s : SV} (h : isOwn s = false) : isPin s = false := by
  cases s with
  | no => rfl
  | imm _ => rfl
  | lst p _ => cases p <;> cases h
  | dic p t _ => cases p <;> cases t <;> cases h
end DL
end
section
set_option maxRecDepth 100000
set_option maxHeartbeats 4000000
/-! DLX: exceptions by hand. -/
namespace DL
open PySem PySem.Spec PyProof.Rows L2
section
variable {P : Program} {w : World} {K : PySem.W.Frag} {mg : Str → Option Value} {base : Heap} {CX : CXT} {k : Nat} {f : Addr} {fd : FuncData} {ps : List Str} {sp sp1 sp2 : Sp}
/-- two promises in one -/
theorem fnOk_or (F : FnOk P w K mg base CX k f fd ps sp1) (F' : FnOk P w K mg base CX k f fd ps sp2) : FnOk P w K mg base CX k f fd ps (fun vs H Q E => sp1 vs H Q E ∨ sp2 vs H Q E) :=
  ⟨fun vs H Q E h => h.elim (F.len vs H Q E) (F'.len vs H Q E), fun A outer s H args us vs Q E hr he hb hv h => h.elim (F.run A outer s H args us vs Q E hr he hb hv) (F'.run A outer s H args us vs Q E hr he hb hv)⟩
end
theorem own_imms {ds : List Dt} {σ : L2.St} {i : Nat} {a : Addr} : ¬ OwnAt (ds.map .imm) σ i a := fun ⟨⟨sv, h1, h2⟩, _⟩ => by
  rw [List.getElem?_map] at h1
  obtain ⟨d, _, rfl⟩ := Option.map_eq_some_iff.mp h1
  cases h2
theorem rel_imms {H : Hp} {vs : List V} {ds : List Dt} (h : RpAll H vs ds) : Rel (ds.map .imm) (vs.map some) H H := by
  refine ⟨Ex.refl H, fun i sv e => ?_, fun i j a o => (own_imms o).elim, by simp [h.length]⟩
  rw [List.getElem?_map] at e
  obtain ⟨d, e1, rfl⟩ := Option.map_eq_some_iff.mp e
  obtain ⟨v, e2, r⟩ := h.get e1
  exact ⟨v, by rw [List.getElem?_map, e2]; rfl, r⟩
theorem Stp.ex_of {O : Addr → Prop} {G H G' H' : Hp} (s : Stp O G H G' H') (n : ∀ a, ¬ O a) : Ex H H' := fun a o h => s.fr a o h (n a)
/-- a promise at plain data, of a plain datum -/
theorem spD_of {n : Nat} {m : Fnm} {ds : List Dt} {d : Dt} {vs : List V} {H : Hp} {Q : VK} {E : XK} (hn : ds.length = n) (hm : WpF m (ds.map .imm) fun r _ => r = .val d) (hv : RpAll H vs ds) (q : ∀ v H', Ex H H' → Rp H' v d → Q v H') : spD n m vs H Q E := by
  obtain ⟨r, out, e, rfl⟩ := hm
  refine ⟨_, H, _, out, by rw [hv.length, hn], e, rel_imms hv, fun sv h o => ?_, fun v G' H' g rr => ?_⟩
  · obtain ⟨d, _, rfl⟩ := List.mem_map.mp h
    cases o
  · exact q v H' (g.stp.ex_of fun a ⟨i, o⟩ => own_imms o) (Rp.ex g.rel.ex _ rr)
/-- the slots at a def's start, its arguments plain data -/
theorem rel_start {H : Hp} {vs : List V} {ds : List Dt} (N : List Str) (h : RpAll H vs ds) : Rel (ds.map .imm ++ List.replicate (N.length - ds.length) .no) (L2.start N vs) H H := by
  have r := rs_start (N := N) (rel_imms h) fun sv hs o => by
    obtain ⟨d, _, rfl⟩ := List.mem_map.mp hs
    cases o
  have := r.rel
  rwa [List.length_map] at this
theorem no_own {ρ : En} {σ : L2.St} (h : ρ.all (fun s => !isOwn s) = true) (a : Addr) : ¬ Own ρ σ a := fun ⟨i, ⟨sv, h1, h2⟩, _⟩ => by
  have := List.all_eq_true.mp h sv (List.mem_of_getElem? h1)
  rw [h2] at this
  cases this
theorem Go.exH {ρ ρ1 : En} {σ : L2.St} {G H G1 H1 : Hp} (g : Go ρ σ G H ρ1 G1 H1) (h : ρ.all (fun s => !isOwn s) = true) : Ex H H1 := g.stp.ex_of (no_own h)
/-! ### S.__init__(self, ..), S a class of the program over ValueError -/
section
variable {X : Cx} {e : Expr} {es : List Expr} {ta : TA} {p1 p2 pos : Pos} {x : Str} {S : Addr}
theorem pe_sinit {pl : Sem Bool} (hg : Gl X x) (hm : X.mg x = some (.ref S)) (hsp : PySem.W.specialIn X.K (.ref S) "__getattribute__" = some (some (.builtin "type.__getattribute__"))) (hrd : PySem.W.readsIn X.K S (.type "type") = true)
    (hv : PySem.W.findCls X.K (.ref S) (.type "type") "__init__" = some (.val (.builtin "ValueError.__init__"))) (ha : PA X (e :: es) ta) (hdb : (x == ("__debug__" : Str)) = false)
    (hc : eval (.Call (.Attribute (.Name x p1) "__init__" p2) (e :: es) [] pos) X.env = (do
      let ov ← eval (.Name x p1) X.env
      standAt p2.atName
      let (f, first) ← holding [ov] (getMethod ov "__init__" pl)
      callWith pos f first (backTo pos (starEach (e :: es) X.env)) (backToKw pos (keywordEach [] X.env))) := by rfl)
    (he : starEach (e :: es) X.env = (false, eval e X.env) :: starEach es X.env := by rfl) (hpl : (backTo pos (starEach es X.env)).any (·.1) = false := by rfl) :
    PE X (.Call (.Attribute (.Name x p1) "__init__" p2) (e :: es) [] pos) (tVeI X.K ta) := by
  constructor
  intro pins s σ H Q I h
  apply PySem.W.methodCall_KW (h := ?_) (he := hc)
  apply ld_glob I hg hm (h := ?_) (hd := hdb)
  apply PySem.W.method_cls I.kIn hsp
  apply PySem.W.cls_value I.kIn hrd hv (by decide +kernel)
  show wpAny _ _ (callWith pos (Value.builtin "ValueError.__init__") [] _ []) _ _ _
  apply PyProof.Rows.callWith_method1 (h := ?_) (he := he) (hplain := hpl)
  refine thn (ha.run pos pins _ σ H _ (I.tok _) h) ?_
  rintro us s1 ⟨vs, H1, I1, rv, a, C, ws, rfl, hl, T, ea, q⟩
  cases rv with
  | @cons _ u _ ur ru rest =>
    cases (show u = Value.ref a from ru)
    have hz : ur.length ≤ sizeLine := by rw [← Paired.length rest, sizeLine_eq]; omega
    exact oinit_ok T I1 ea hz fun s2 J => ⟨V.non, H1, J, rfl, q⟩
end
end DL
end
section
set_option maxRecDepth 100000
set_option maxHeartbeats 4000000
/-! DLT: try with several clauses, of which the first one takes what comes. -/
namespace DL
open PySem PySem.Spec PyProof.Rows L2
/-- behind the suite of «except x as n»: the name is gone -/
def offN (i : Nat) (D : Ends) : Ends := { nx := fun τ K => D.nx (τ.set i none) K, rt := D.rt, bk := fun τ K => D.bk (τ.set i none) K, ct := fun τ K => D.ct (τ.set i none) K }
/-- the first clause takes it -/
def wFst (K : PySem.W.Frag) (c : Value) (i N : Nat) (ts : Addr → Value → Option Addr → TS) (D : Ends) : WX := fun cls d τ H' =>
  PySem.W.exmOne K cls c = some true ∧ ∀ a, H' a = none → τ.length = N → ts a cls d (offN i D) (τ.set i (some (.ref a))) H'
section
variable {X : Cx} {x n : Str} {c : Value} {i : Nat} {body suite : List Stmt} {b0 : Stmt} {np pos pos1 : Pos} {more : List ExceptHandler} {tb : WX → TS} {ts : Addr → Value → Option Addr → TS}
theorem ps_try_fst (stk : X.stack = X.env :: X.outer) (frm : X.env.frame = some X.env.locals) (nod : X.N.Nodup) (at_ : X.N[i]? = some n) (loc : X.env.kindOf n = some .local) (cl : Names X x c)
    (hbody : ∀ (W : WX) (pn : List (Addr × Obj)) (xe : Value → Shared → Prop), Takes (X.tr pn xe) W → PassesOwn (model X.prog X.w) X.A X.env xe → PSs (X.tr pn xe) body (tb W))
    (hsuite : ∀ (a : Addr) (oe : Obj) (cls : Value) (d : Option Addr) (pn : List (Addr × Obj)), Zc cls d oe → (∃ vs, oe.data = .fields vs) → PSs (X.suite a ((a, oe) :: pn)) (b0 :: suite) (ts a cls d)) :
    PS X (.Try body (.ExceptHandler (some (.Name x np)) (some n) (b0 :: suite) pos1 :: more) [] [] pos) (fun D σ H => tb (wFst X.K c i X.N.length ts D) D σ H) := by
  constructor
  intro pins s σ H D I h
  have ok := I.ok
  apply wpAny_Try_except
  let catcher : Value → Shared → Prop := fun u t => wpAny (model X.prog X.w) X.A (noteFrame u X.env) (fun _ t2 => wpAny (model X.prog X.w) X.A (setFlight u none) (fun _ t3 =>
    wpAny (model X.prog X.w) X.A (handleBy u X.env (.ExceptHandler (some (.Name x np)) (some n) (b0 :: suite) pos1 :: more)) (SP X pins D) X.xe t3) X.xe t2) X.xe t
  have taken : Takes (X.tr (X.pn ++ pins) catcher) (wFst X.K c i X.N.length ts D) := by
    rintro u t ⟨a, B, sI, pins', τ, K', cls, d, rfl, J0, nb, up, sky, na, os, ag, hm, hyes⟩
    have J : Inv X pins τ K' sI := J0.ofTry ok
    have frames : X.A.frames = some (X.env :: X.outer) := by rw [ok.frames, stk]
    have sky1 : Sky B (X.env :: X.outer) a (Zc cls d) X.env.locals t.heap := by
      have := sky
      rw [← stk]
      exact this
    show wpAny (model X.prog X.w) X.A (noteFrame (.ref a) X.env) _ _ _
    apply Sky.land Zc.steady frames frm sky1
    intro g3 fly3 up3
    have J3 : Inv X pins τ K' { t with heap := g3 } := J.landed nb fly3.1 (up.trans up3) os ag
    obtain ⟨o3, w3, e3, z3, d3⟩ := fly3.there
    have outside : a ∉ frs (X.env :: X.outer) := by
      intro hm
      obtain ⟨_, o', e', no⟩ := fly3.2.2.1.mem hm
      rw [e3] at e'
      cases e'
      exact no _ d3
    have aL : a ≠ X.env.locals := fun z => outside (List.mem_filterMap.mpr ⟨X.env, List.mem_cons_self, by rw [frm, z]⟩)
    have aF : a ∉ X.fs := fun hm => by
      obtain ⟨e, he, q⟩ := List.mem_filterMap.mp hm
      exact outside (List.mem_filterMap.mpr ⟨e, List.mem_cons_of_mem _ he, q⟩)
    have S3 := J3.suite e3 d3 na aL aF
    apply wpAny_handleBy_cons (codeAny_handlers_test ?_) (by intro q; cases q)
    have typ : PySem.W.Looks (model X.prog X.w) g3 (typeOf (.ref a)) cls := fun A Q E s k q => wpAny_typeOf_ref (k _ _ e3) (by rw [z3.1]; exact q)
    have mat := PySem.W.exm_one (M := model X.prog X.w) J3.kIn typ hm
    have named : ∀ {Q E : Value → Shared → Prop}, Q c { t with heap := g3 } → wpAny (model X.prog X.w) (X.A.mark (some (.ref a))) (eval (.Name x np) X.env) Q E { t with heap := g3 } := by
      intro Q E q
      obtain ⟨k1, k2, k3⟩ := cl
      rcases k3 with k3 | ⟨k3, k4, k5⟩
      · exact ld_glob (X := X.suite a ((a, o3) :: (X.pn ++ pins))) S3 k1 k3 q k2
      · exact ld_blt (X := X.suite a ((a, o3) :: (X.pn ++ pins))) S3 k1 k3 k4 q k5 k2
    apply named
    apply mat.here
    apply codeAny_handlers_suite_as
    apply HandSPX.lands_againZ fly3
    intro g4 fly4 up4
    have J4 : Inv X pins τ K' { t with heap := g4 } := J.landed nb fly4.1 ((up.trans up3).trans up4) os ag
    obtain ⟨o4, w4, e4, z4, d4⟩ := fly4.there
    have S4 := J4.suite e4 d4 na aL aF
    refine store_ok (X := X.suite a ((a, o4) :: (X.pn ++ pins))) (v := .ref a) S4 nod at_ (.inl loc) rfl ?_ (.inr loc)
    intro t5 S5
    refine wpAny_mono ((hsuite a o4 cls d (X.pn ++ pins) z4 ⟨_, d4⟩).run [] t5 _ K' _ S5 (hyes a na J.len)) ?_ (fun _ _ z => False.elim z)
    intro fl t6 res
    have last : ∀ {τ6 : L2.St} {K6 : Hp} {R : Shared → Prop}, Inv (X.suite a ((a, o4) :: (X.pn ++ pins))) [] τ6 K6 t6 → (∀ t7, Inv X pins (τ6.set i none) K6 t7 → R t7) →
        wpAny (model X.prog X.w) X.A (do bindName X.env n .none; unbindBehindTheSuite X.env n pos1) (fun _ t7 => R t7) X.xe t6 := fun S6 hq => gone_ok (S6.unsuite ok) nod at_ loc hq
    match fl, res with
    | .next, ⟨_, _, S6, q6⟩ => exact last S6 fun t7 J7 => ⟨_, _, J7, q6⟩
    | .brk, ⟨_, _, S6, q6⟩ => exact last S6 fun t7 J7 => ⟨_, _, J7, q6⟩
    | .cont, ⟨_, _, S6, q6⟩ => exact last S6 fun t7 J7 => ⟨_, _, J7, q6⟩
    | .ret u, ⟨_, _, _, S6, r6, q6⟩ => exact last S6 fun t7 J7 => ⟨_, _, _, J7, r6, q6⟩
  refine wpAny_mono ((hbody (wFst X.K c i X.N.length ts D) (X.pn ++ pins) catcher taken PassesOwn.looking).run [] s σ H D (I.toTry _) h) ?_ (fun e t he => he)
  intro fl t res
  match fl, res with
  | .next, ⟨τ, K', J, q⟩ => exact wpAny_execs_nil ⟨τ, K', J.ofTry ok, q⟩
  | .brk, ⟨τ, K', J, q⟩ => exact ⟨τ, K', J.ofTry ok, q⟩
  | .cont, ⟨τ, K', J, q⟩ => exact ⟨τ, K', J.ofTry ok, q⟩
  | .ret u, ⟨v, τ, K', J, r, q⟩ => exact ⟨v, τ, K', J.ofTry ok, r, q⟩
end
end DL
end
section
set_option maxRecDepth 100000
set_option maxHeartbeats 4000000
/-! DLC: the law's call where the law makes lambdas: the script and the tables of code objects are tracked; no repr is under way. -/
namespace DL
open PySem PySem.Spec PyProof.Rows L2 LamX
/-- what is tracked: the script (where the written part does not tell it), the tables ts -/
def scrT (a : Addr) (vs : List Value) (ns : List Int) (known : Bool) (ts : List Addr) : Hp := fun b =>
  if b = a ∧ known = false then some (.frz { cls := .type "list", data := .seq vs.toArray } (.lst (ns.map V.int))) else if b ∈ ts then some (.tbl #[]) else none
section
variable {P : Program} {w : World} {K : PySem.W.Frag} {mg mb : Str → Option Value} {CX : CXT} {k : Nat} {fa a : Addr} {fd : FuncData} {x : Str} {sp : Sp} {s₁ : Shared} {vs : List Value} {ns : List Int} {cs : List (Addr × Addr)} {known : Bool} {ts : List Addr}
theorem scrT_some {b : Addr} {u : HO} (h : scrT a vs ns known ts b = some u) : (b = a ∧ known = false ∧ u = .frz { cls := .type "list", data := .seq vs.toArray } (.lst (ns.map V.int))) ∨ (b ∈ ts ∧ u = .tbl #[]) := by
  unfold scrT at h
  by_cases c : b = a ∧ known = false
  · rw [if_pos c] at h
    cases h
    exact .inl ⟨c.1, c.2, rfl⟩
  · rw [if_neg c] at h
    by_cases c2 : b ∈ ts
    · rw [if_pos c2] at h
      cases h
      exact .inr ⟨c2, rfl⟩
    · rw [if_neg c2] at h
      cases h
theorem law_callTG (KX : K.In s₁.heap) (hns : s₁.heap.Ns mainGlobals mg) (hb : s₁.heap.Ns builtinsNs mb) (hbb : ∀ x : Str, x ≠ "__name__" → mb x = bootBuiltins x) (hlim : s₁.heap.NoLimit) (hg : s₁.gens = #[])
    (hT : ∀ p ∈ cs, s₁.heap.get? p.2 = some { cls := .none, data := .fields #[] }) (nT : ∀ p ∈ cs, K.lookup p.2 = none) (C : ∀ p ∈ cs, PySem.W.CodeHd s₁.heap p.1 p.2)
    (hbm : ∃ (bm : Addr) (ob : Obj), mg "__builtins__" = some (.ref bm) ∧ bm ≠ builtinsNs ∧ s₁.heap.get? bm = some ob ∧ ob.cls = .type "module" ∧ ob.dict = some builtinsNs ∧ ob.data = .plain)
    (ha : s₁.heap.get? a = some { cls := .type "list", data := .seq vs.toArray }) (hi : IntsAre vs ns) (hl : ns.length ≤ sizeLine) (hr : Rm k callerA)
    (F : ∀ base : Heap, K.In base → base.Ns mainGlobals mg → (∀ p ∈ cs, TabB base mg p.1 p.2) → FnG P w K mg base CX k fa fd [x] sp) (hbind : ∀ (s : Shared) (u : Value), BindsTo s fd ⟨[u], []⟩ [(x, u)])
    (hsp : ∀ H : Hp, (∀ p ∈ cs, H p.2 = some (.tbl #[])) → SqL K H a (ns.map V.int) → sp [.ref a] H (fun v _ => v = .bl true) fun _ _ _ => False)
    (hCX : ∀ H e s', CX [] H s₁ (fun _ _ _ => False) e s' → False) :
    codeAny (model P w) callerA (.call (.ref fa) ⟨[.ref a], []⟩) (fun r s' => r = .ok (.ret (.bool true)) ∧ OldK s₁.heap s'.heap ∧ s'.os = s₁.os ∧ AllBare s'.gens) s₁ := by
  have ivs := vals_ints hi
  have hlen := hi.length
  obtain ⟨known, hk⟩ : ∃ known : Bool, (known = true ↔ K.lookup a ≠ none) := ⟨(K.lookup a).isSome, by cases K.lookup a <;> simp⟩
  obtain ⟨ts, hts⟩ : ∃ ts : List Addr, ts = cs.map (·.2) := ⟨_, rfl⟩
  have tab : ∀ b, b ∈ ts → ∃ p ∈ cs, p.2 = b := fun b hb => by rw [hts] at hb; exact List.mem_map.mp hb
  have tab0 : ∀ b, b ∈ ts → s₁.heap.get? b = some { cls := .none, data := .fields #[] } := fun b hb => by
    obtain ⟨p, hp, e⟩ := tab b hb
    rw [← e]; exact hT p hp
  have in_ts : ∀ p ∈ cs, p.2 ∈ ts := fun p hp => by rw [hts]; exact List.mem_map.mpr ⟨p, hp, rfl⟩
  have aT : a ∉ ts := fun z => by
    have := tab0 a z
    rw [ha] at this
    cases congrArg Obj.data (Option.some.inj this)
  have free : ∀ {b : Addr} {o : Obj}, s₁.heap.get? b = some o → (∀ vs n, o.data ≠ .seq vs n) → o.data ≠ .fields #[] → scrT a vs ns known ts b = none := fun {b o} e h1 h2 => by
    cases q : scrT a vs ns known ts b with
    | none => rfl
    | some u =>
      rcases scrT_some q with ⟨rfl, _, _⟩ | ⟨hb, _⟩
      · rw [ha] at e; cases e; exact (h1 _ _ rfl).elim
      · rw [tab0 b hb] at e; cases e; exact (h2 rfl).elim
  have ns_keep : ∀ {b : Addr} {m : Str → Option Value}, s₁.heap.Ns b m → (hidT s₁.heap (scrT a vs ns known ts)).Ns b m := fun {b m} ⟨o, es, ep, e, d, r⟩ =>
    ⟨o, es, ep, hidT_get e (free e (fun vs n z => by rw [d] at z; cases z) fun z => by rw [d] at z; cases z), d, r⟩
  have inK : K.In (hidT s₁.heap (scrT a vs ns known ts)) := fun b o e => hidT_get (KX b o e) (by
    cases q : scrT a vs ns known ts b with
    | none => rfl
    | some u =>
      rcases scrT_some q with ⟨rfl, h2, _⟩ | ⟨hb, _⟩
      · have : known = true := hk.mpr (by rw [e]; exact fun z => nomatch z)
        rw [h2] at this; cases this
      · obtain ⟨p, hp, ep⟩ := tab b hb
        rw [← ep, nT p hp] at e
        cases e)
  have hok : HOk P w (scrT a vs ns known ts) s₁.heap := fun b u z => by
    rcases scrT_some z with ⟨rfl, _, rfl⟩ | ⟨hb, rfl⟩
    · exact ⟨ha, by rw [List.length_map]; exact hl, vs, _, ivs, ha⟩
    · exact tab0 b hb
  have sq : SqL K (scrT a vs ns known ts) a (ns.map V.int) := by
    cases hkn : known with
    | true =>
      obtain ⟨o, e⟩ := Option.ne_none_iff_exists'.mp (hk.mp hkn)
      have e' := KX a o e
      rw [ha] at e'
      cases e'
      exact .inr ⟨_, vs.toArray, _, e, rfl, rfl, rfl, by rw [List.size_toArray, hlen]; exact hl, by simpa using ivs⟩
    | false => exact .inl (.inr ⟨{ cls := .type "list", data := .seq vs.toArray }, if_pos ⟨rfl, rfl⟩⟩)
  have htb : ∀ p ∈ cs, scrT a vs ns known ts p.2 = some (.tbl #[]) := fun p hp => by
    have h1 := in_ts p hp
    unfold scrT
    rw [if_neg (fun c => aT (by rw [← c.1]; exact h1)), if_pos h1]
  have modu : L2.Mod K mg (hidT s₁.heap (scrT a vs ns known ts)) := ⟨inK, ns_keep hns, ⟨mb, ns_keep hb, hbb⟩, let ⟨mc, h1, h2⟩ := hlim; ⟨mc, ns_keep h1, h2⟩⟩
  have TB : ∀ p ∈ cs, TabB (hidT s₁.heap (scrT a vs ns known ts)) mg p.1 p.2 := fun p hp => by
    have hTp := hT p hp
    refine ⟨?_, ?_, fun z => ?_⟩
    · obtain ⟨o, us, file, tf, flags, tg, inF, text, tt, e1, r1, r2, r3, r⟩ := C p hp
      refine ⟨o, us, file, tf, flags, tg, inF, text, tt, hidT_get e1 (free e1 (fun vs n z => by rw [r2] at z; cases z) fun z => ?_), r1, r2, r3, r⟩
      rw [r2] at z
      cases z
      simp at r3
    · obtain ⟨bm, ob, b1, b2, b3, b4, b5, b6⟩ := hbm
      have n1 : bm ≠ mainGlobals := fun q => by
        obtain ⟨o, es, ep, e, hd, _⟩ := hns
        rw [q, e] at b3; cases b3
        rw [hd] at b6; cases b6
      have n2 : bm ≠ p.2 := fun q => by
        rw [q, hTp] at b3; cases b3; cases b6
      exact ⟨bm, ob, b1, b2, n1, n2, hidT_get b3 (free b3 (fun vs n z => by rw [b6] at z; cases z) fun z => by rw [b6] at z; cases z), b4, b5, b6⟩
    · obtain ⟨o, es, ep, e, hd, _⟩ := hns
      rw [z, hTp] at e
      cases e
      cases hd
  have e0 : Env0 P w K mg (hidT s₁.heap (scrT a vs ns known ts)) callerA [] s₁ (scrT a vs ns known ts) := ⟨rfl, modu, fun b o e => of_hidT e, Nat.le_of_eq (hidT_size _ _), trivial, fun b hb => absurd (show b ∈ ([] : List Addr) from hb) (by simp), hok, .of_eq hg⟩
  refine codeAny_mono ((F _ inK (ns_keep hns) TB).run callerA [] s₁ _ ⟨[.ref a], []⟩ [.ref a] [.ref a] _ _ hr e0 (hbind s₁ (.ref a)) (.cons rfl .nil) (hsp _ htb sq)) fun r s' h => ?_
  cases r with
  | error e => exact (hCX _ e s' h).elim
  | ok fl =>
    cases fl with
    | next => exact h.elim
    | brk => exact h.elim
    | cont => exact h.elim
    | ret u =>
      obtain ⟨v, H', os, bare, un, hok', r', q⟩ := h
      have q : v = .bl true := q
      subst q
      obtain rfl : u = Value.bool true := r'
      have kept : ∀ b o, b ∉ ts → s₁.heap.get? b = some o → s'.heap.get? b = some o := fun b o nb e => by
        cases q : scrT a vs ns known ts b with
        | none => exact un.keep b o e q (by intro z; exact absurd (show b ∈ ([] : List Addr) from z) (by simp)) (by simp)
        | some u =>
          rcases scrT_some q with ⟨_, _, rfl⟩ | ⟨hb, _⟩
          · obtain ⟨e1, _⟩ := hok b _ q
            obtain ⟨e2, _⟩ := hok' b _ (un.frzs b _ _ q)
            rw [e] at e1; cases e1
            exact e2
          · exact absurd hb nb
      have grown : ∀ p ∈ cs, ∃ more : Array Value, s'.heap.get? p.2 = some { cls := .none, data := .fields more } := fun p hp => by
        obtain ⟨more, z⟩ := un.tbls p.2 #[] (htb p hp)
        exact ⟨_, hok' p.2 _ z⟩
      refine ⟨rfl, ⟨fun b o e => ?_, fun b o e => ?_⟩, os, bare⟩
      · by_cases c : b ∈ ts
        · obtain ⟨p, hp, rfl⟩ := tab b c
          obtain ⟨more, hm⟩ := grown p hp
          rw [hT p hp] at e
          cases e
          exact .inr (.inl ⟨((C p hp).tab (hT p hp)).isCodeTable, rfl, #[], more, rfl, by rw [Array.empty_append]; exact hm⟩)
        · exact .inl (kept b o c e)
      · by_cases c : b ∈ ts
        · obtain ⟨p, hp, rfl⟩ := tab b c
          obtain ⟨more, hm⟩ := grown p hp
          exact ⟨_, hm⟩
        · exact ⟨o, kept b o c e⟩
end
/-- what is known of the law's promise at the head's heap -/
def LawAtG (l : PySem.W.OpenLaw) (w : World) (K : PySem.W.Frag) (CX : CXT) (k n : Nat) (x : Str) (mg : Str → Option Value) (fa : Addr) (h : Heap) : Prop :=
  ∃ (fd : FuncData) (cs : List (Addr × Addr)) (sp : Sp), (∀ p ∈ cs, h.get? p.2 = some { cls := .none, data := .fields #[] }) ∧ (∀ p ∈ cs, K.lookup p.2 = none) ∧ (∀ p ∈ cs, PySem.W.CodeHd h p.1 p.2) ∧ (∀ (s : Shared) (u : Value), BindsTo s fd ⟨[u], []⟩ [(x, u)]) ∧
    (∀ (H : Hp) (a : Addr) (ns : List Int), ns.length ≤ n → (∀ z ∈ ns, Builtin.Int.intBits z ≤ 1048576) → (∀ p ∈ cs, H p.2 = some (.tbl #[])) → SqL K H a (ns.map V.int) → sp [.ref a] H (fun v _ => v = .bl true) fun _ _ _ => False) ∧
    ∀ base : Heap, K.In base → base.Ns mainGlobals mg → (∀ p ∈ cs, TabB base mg p.1 p.2) → FnG l.prog w K mg base CX k fa fd [x] sp
theorem walk_ofTG {l : PySem.W.OpenLaw} {n k : Nat} {q : Program} {loose : List Str} {XP : (Str → Option Value) → Heap → Prop} {YP : World → Heap → Prop} {d : DefRec} {K : Params → PySem.W.Frag} {CX : World → CXT} {x : Str}
    (hn : l.most = some n) (hn2 : n ≤ sizeLine) (hdf : d.params.defaults = []) (hr : Room k callerA) (hrec : ((recsOf q).any fun e => e.name == d.name) = true) (hY : ∀ (w : World) (h : Heap), YP w h → (K w.params).In h)
    (F : ∀ (w : World) (mg : Str → Option Value) (fa : Addr) (h : Heap), YP w h → (K w.params).In h → h.Ns mainGlobals mg → mg d.name = some (.ref fa) → OwnTab (K w.params) fa h → LawAtG l w (K w.params) (CX w) k n x mg fa h)
    (hCX : ∀ (w : World) (H : Hp) (s : Shared) (e : Value) (s' : Shared), CX w [] H s (fun _ _ _ => False) e s' → False) :
    PySem.W.WalkO q loose XP YP l.row.toRowW d [] (fun f vs => PySem.call f vs) :=
  Att.attach_callB hn hdf fun w s₀ s₁ mg mb fa o pm cd doc a vs ns G Y ho hd hcd hmg hobj hints hlen hbits hg => by
    have KX := hY w _ Y
    have own : OwnTab (K w.params) fa s₁.heap := fun c P o1 fd1 e dd vs1 sl k1 k2 k3 k4 k5 => by
      obtain ⟨dL, hm, hn1⟩ := List.any_eq_true.mp hrec
      obtain ⟨a', o', fd', c', P', h1, h2, h3, h4, h5, h6⟩ := G.T.tab dL hm
      rw [beq_iff_eq.mp hn1, hmg] at h1
      cases h1
      have g1 := KX _ _ k1
      rw [g1] at h2
      cases h2
      rw [k2] at h3
      cases h3
      rw [k3] at h4
      cases h4
      obtain ⟨⟨oc, vc, e1, _, e3, e4⟩, hP⟩ := h6
      have g2 := KX _ _ k4
      rw [g2] at e1
      cases e1
      cases e3
      rw [k5] at e4
      cases e4
      exact hP
    obtain ⟨fd, cs, sp, hT, nT, C, hb, hsp, hF⟩ := F w mg fa _ Y KX G.T.g hmg own
    exact law_callTG KX G.T.g G.T.b G.T.builtins G.T.nolimit hg hT nT C G.T.bmain hobj hints (Nat.le_trans hlen hn2) (rm_caller hr) hF hb (fun H hH hS => hsp H a ns hlen hbits hH hS) fun H e s' => hCX w H s₁ e s'
end DL
end
section
set_option maxRecDepth 100000
set_option maxHeartbeats 400000
/-! T64: texts as lists of numbers: split, splitMax, journals; what the program opens is what the law opens. No program in sight. -/
namespace T64
open PySem PySem.Builtin PySem.Builtin.Str PySem.StrLaws TL
/-! ### split with a limit -/
theorem run_lim (s sub : Str) (hi limit lo : Nat) (hw : 1 ≤ sub.length) : ∀ (m cur : Nat) (st : Array Nat × Nat), ChainG s sub hi lo st.fst.toList st.snd → (st.fst.size < limit → ∀ k, st.snd ≤ k → k < cur → ¬ At s sub hi k) →
    ChainG s sub hi lo (forIn (List.range' cur m) st (occBody s sub hi limit)).run.fst.toList (forIn (List.range' cur m) st (occBody s sub hi limit)).run.snd ∧
    ((forIn (List.range' cur m) st (occBody s sub hi limit)).run.fst.size < limit → ∀ k, (forIn (List.range' cur m) st (occBody s sub hi limit)).run.snd ≤ k → k < cur + m → ¬ At s sub hi k)
  | 0, cur, st, h, hn => ⟨h, hn⟩
  | m + 1, cur, st, h, hn => by
    rw [List.range'_succ, List.forIn_cons]
    unfold occBody
    have e : cur + (m + 1) = (cur + 1) + m := by omega
    rw [e]
    split
    · rename_i hc
      refine run_lim s sub hi limit lo hw m (cur + 1) _ ?_ ?_
      · show ChainG s sub hi lo (st.fst.push cur).toList (cur + sub.length)
        rw [Array.toList_push]
        exact chainG_snoc h hc.1.1.2 ⟨hc.1.2, hc.2⟩ (hn hc.1.1.1)
      · intro _ k h1 h2
        have h1' : cur + sub.length ≤ k := h1
        omega
    · rename_i hc
      refine run_lim s sub hi limit lo hw m (cur + 1) _ h ?_
      intro hl k h1 h2 hA
      have hl' : st.fst.size < limit := hl
      by_cases hk : k < cur
      · exact hn hl' k h1 hk hA
      · have ek : k = cur := by omega
        subst ek
        exact hc ⟨⟨⟨hl', h1⟩, hA.1⟩, hA.2⟩
theorem occ_lim (x y : Str) (limit : Nat) (hw : 1 ≤ y.length) : ∃ f, ChainG x y x.length 0 (occurrences x y 0 x.length limit) f ∧ ((occurrences x y 0 x.length limit).length < limit → ∀ k, f ≤ k → ¬ At x y x.length k) := by
  rw [occ_eq]
  have key := run_lim x y x.length limit 0 hw (x.length + 1 - 0) 0 ((#[] : Array Nat), 0) rfl (fun _ k _ h => by omega)
  refine ⟨_, key.1, fun hl k hk hA => ?_⟩
  exact key.2 (by simpa using hl) k hk (by have := hA.1; omega) hA
theorem at_one {x : Str} {c i : Nat} : At x ⟨#[c]⟩ x.length i ↔ (tl x)[i]? = some c := subAt_one x c i
/-- a text cut at a place where the sign stands -/
theorem cut_at {x : Str} {c i : Nat} (h : (tl x)[i]? = some c) : tl x = (tl x).take i ++ c :: (tl x).drop (i + 1) := by
  have hlt := (List.getElem?_eq_some_iff.mp h)
  conv => lhs; rw [← List.take_append_drop i (tl x)]
  rw [List.drop_eq_getElem_cons hlt.1, hlt.2]
theorem none_between {l : List Nat} {c a b : Nat} (h : ∀ k, a ≤ k → k < b → l[k]? ≠ some c) : c ∉ (l.drop a).take (b - a) := fun hm => by
  obtain ⟨j, hj⟩ := List.getElem?_of_mem hm
  have hlt : j < b - a := by
    have h1 := (List.getElem?_eq_some_iff.mp hj).1
    simp at h1
    omega
  rw [List.getElem?_take_of_lt hlt, List.getElem?_drop] at hj
  exact h (a + j) (by omega) (by omega) hj
/-- what splitMax with 2 gives -/
def cut2 (c : Nat) (l : List Nat) (ps : List (List Nat)) : Prop :=
  (c ∉ l ∧ ps = [l]) ∨ (∃ a b, l = a ++ c :: b ∧ c ∉ a ∧ c ∉ b ∧ ps = [a, b]) ∨ ∃ a b r, l = a ++ c :: (b ++ c :: r) ∧ c ∉ a ∧ c ∉ b ∧ ps = [a, b, r]
theorem splitMax2 (x : Str) (c : Nat) (hc : c < 256) : cut2 c (tl x) ((Txt.splitMax x ⟨#[c]⟩ 2).map tl) := by
  have hy : (1 : Nat) ≤ (⟨#[c]⟩ : Str).length := Nat.le_refl 1
  obtain ⟨f, g, hn⟩ := occ_lim x ⟨#[c]⟩ 2 hy
  have hlen := occ_length_le x ⟨#[c]⟩ 0 x.length 2
  have hk : ¬ strKind x < strKind (⟨#[c]⟩ : Str) := kind_ok (by simp [hc])
  have hx := len_tl x
  have lim : limitOf x 2 = 2 := rfl
  have one : (⟨#[c]⟩ : Str).length = 1 := rfl
  have whole : occurrences x ⟨#[c]⟩ 0 x.length 2 = [] → cut2 c (tl x) ([x].map tl) := fun ho => by
    rw [ho] at g hn
    have ef : f = 0 := g
    subst ef
    refine .inl ⟨fun hm => ?_, rfl⟩
    obtain ⟨j, hj⟩ := List.getElem?_of_mem hm
    exact hn (by simp) j (by omega) (at_one.mpr hj)
  unfold Txt.splitMax
  rw [lim]
  by_cases h1 : (decide (x.length < (⟨#[c]⟩ : Str).length) || decide (strKind x < strKind (⟨#[c]⟩ : Str))) = true
  · rw [if_pos h1]
    have hlt : x.length < 1 := by
      simp only [Bool.or_eq_true, decide_eq_true_eq] at h1
      rcases h1 with h | h
      · exact h
      · exact absurd h hk
    refine whole ?_
    cases ho : occurrences x ⟨#[c]⟩ 0 x.length 2 with
    | nil => rfl
    | cons i r =>
      rw [ho] at g
      have := g.2.1.1
      rw [one] at this
      omega
  · rw [if_neg h1]
    by_cases h2 : (occurrences x ⟨#[c]⟩ 0 x.length 2).isEmpty = true
    · rw [if_pos h2]
      exact whole (List.isEmpty_iff.mp h2)
    · rw [if_neg h2, partsBetween_eq, one]
      cases ho : occurrences x ⟨#[c]⟩ 0 x.length 2 with
      | nil => rw [ho] at h2; exact absurd rfl h2
      | cons i r =>
        rw [ho] at g hn hlen
        obtain ⟨_, g2, g3, g4⟩ := g
        rw [one] at g4
        have gi := at_one.mp g2
        have a1 : c ∉ (tl x).take i := by
          have := none_between (l := tl x) (a := 0) (b := i) fun k h1 h2 z => g3 k h1 h2 (at_one.mpr z)
          simpa using this
        cases r with
        | nil =>
          have ef : f = i + 1 := g4
          subst ef
          refine .inr (.inl ⟨(tl x).take i, (tl x).drop (i + 1), cut_at gi, a1, fun hm => ?_, ?_⟩)
          · obtain ⟨j, hj⟩ := List.getElem?_of_mem hm
            rw [List.getElem?_drop] at hj
            exact hn (by simp) (i + 1 + j) (by omega) (at_one.mpr hj)
          · show [tl (strSub x 0 i), tl (strSub x (i + 1) x.length)] = _
            rw [tl_strSub, tl_strSub_end]
            simp
        | cons j r2 =>
          obtain ⟨g5, g6, g7, g8⟩ := g4
          have er : r2 = [] := by
            cases r2 with
            | nil => rfl
            | cons _ _ => simp at hlen
          subst er
          have gj := at_one.mp g6
          have b1 : c ∉ ((tl x).drop (i + 1)).take (j - (i + 1)) := none_between fun k h1 h2 z => g7 k h1 h2 (at_one.mpr z)
          have e2 : (tl x).drop (i + 1) = ((tl x).drop (i + 1)).take (j - (i + 1)) ++ c :: (tl x).drop (j + 1) := by
            have hlt := List.getElem?_eq_some_iff.mp gj
            have e3 : ((tl x).drop (i + 1)).drop (j - (i + 1)) = (tl x).drop j := by rw [List.drop_drop]; congr 1; omega
            conv => lhs; rw [← List.take_append_drop (j - (i + 1)) ((tl x).drop (i + 1))]
            rw [e3, List.drop_eq_getElem_cons hlt.1, hlt.2]
          refine .inr (.inr ⟨(tl x).take i, _, (tl x).drop (j + 1), ?_, a1, b1, ?_⟩)
          · rw [← e2]; exact cut_at gi
          · show [tl (strSub x 0 i), tl (strSub x (i + 1) j), tl (strSub x (j + 1) x.length)] = _
            rw [tl_strSub, tl_strSub, tl_strSub_end]
            simp
/-! ### split at one sign -/
def cutc (c : Nat) (l : List Nat) : List (List Nat) := spl [c] 0 [] l
theorem split_cutc (x : Str) (c : Nat) (hc : c < 256) : (Txt.split x ⟨#[c]⟩).map tl = cutc c (tl x) := split_spl x ⟨#[c]⟩ (by simp) (kind_ok (by simp [hc]))
theorem cutc_last {c : Nat} {l : List Nat} (h : c ∉ l) : cutc c l = [l] := by
  unfold cutc
  rw [spl_last1 h, List.nil_append]
theorem cutc_part {c : Nat} {a r : List Nat} (h : c ∉ a) : cutc c (a ++ c :: r) = a :: cutc c r := by
  have := spl_part1 (S := []) (acc := []) (rest := r) h
  simpa [cutc] using this
/-- every list is cut somewhere -/
theorem cut_or (c : Nat) (l : List Nat) : c ∉ l ∨ ∃ a r, l = a ++ c :: r ∧ c ∉ a := by
  induction l with
  | nil => exact .inl (by simp)
  | cons d l ih =>
    by_cases h : d = c
    · subst h; exact .inr ⟨[], l, rfl, by simp⟩
    · rcases ih with k | ⟨a, r, rfl, k⟩
      · exact .inl (by simp [Ne.symm h, k])
      · exact .inr ⟨d :: a, r, rfl, by simp [Ne.symm h, k]⟩
theorem cut_uniq {c : Nat} {a b r s : List Nat} (ha : c ∉ a) (hb : c ∉ b) (h : a ++ c :: r = b ++ c :: s) : a = b ∧ r = s := by
  induction a generalizing b with
  | nil =>
    cases b with
    | nil => simp at h; exact ⟨rfl, h⟩
    | cons d b => simp at h; exact absurd (by rw [h.1]; simp) hb
  | cons d a ih =>
    cases b with
    | nil => simp at h; exact absurd (by rw [h.1]; simp) ha
    | cons e b =>
      simp at h ha hb
      obtain ⟨k1, k2⟩ := ih ha.2 hb.2 h.2
      exact ⟨by rw [h.1, k1], k2⟩
/-- the whole lines, the rest -/
theorem lines_of (c : Nat) : ∀ (n : Nat) (l : List Nat), l.length ≤ n → ∃ ls last, cutc c l = ls ++ [last] ∧ l = (ls.map (· ++ [c])).flatten ++ last ∧ (∀ x ∈ ls, c ∉ x) ∧ c ∉ last
  | 0, l, h => ⟨[], l, by rw [cutc_last (by cases l <;> simp_all)]; rfl, by simp, by simp, by cases l <;> simp_all⟩
  | n + 1, l, h => by
    rcases cut_or c l with k | ⟨a, r, rfl, k⟩
    · exact ⟨[], l, by rw [cutc_last k]; rfl, by simp, by simp, k⟩
    · obtain ⟨ls, last, h1, h2, h3, h4⟩ := lines_of c n r (by simp at h; omega)
      refine ⟨a :: ls, last, by rw [cutc_part k, h1]; rfl, ?_, ?_, h4⟩
      · rw [List.map_cons, List.flatten_cons, List.append_assoc, ← h2]; simp
      · intro x hx
        rcases List.mem_cons.mp hx with rfl | hx
        · exact k
        · exact h3 x hx
theorem cutc_lines {c : Nat} : ∀ {ls : List (List Nat)} {last : List Nat}, (∀ x ∈ ls, c ∉ x) → c ∉ last → cutc c ((ls.map (· ++ [c])).flatten ++ last) = ls ++ [last]
  | [], last, _, h => by simpa using cutc_last h
  | a :: ls, last, h, h2 => by
    have e : ((a :: ls).map (· ++ [c])).flatten ++ last = a ++ c :: ((ls.map (· ++ [c])).flatten ++ last) := by simp
    rw [e, cutc_part (h a (by simp)), cutc_lines (fun x hx => h x (by simp [hx])) h2]
    rfl
/-! ### journals -/
def sumB (a : Int) (l : List Nat) : Int := l.foldl (fun (a : Int) (c : Nat) => (a * 97 + (c : Int) - 31) % 1000000007) a
theorem sumB_range : ∀ (l : List Nat) (a : Int), 0 ≤ a → a < 1000000007 → 0 ≤ sumB a l ∧ sumB a l < 1000000007
  | [], _, h0, h1 => ⟨h0, h1⟩
  | c :: l, a, _, _ => by
    show 0 ≤ sumB ((a * 97 + (c : Int) - 31) % 1000000007) l ∧ sumB ((a * 97 + (c : Int) - 31) % 1000000007) l < 1000000007
    exact sumB_range l _ (by omega) (by omega)
/-- how a number is written -/
def num (i : Int) : List Nat := tl (Str.ofString (toString i))
theorem num_eq {i : Int} (h : 0 ≤ i) : num i = numL i.toNat := by
  obtain ⟨n, rfl⟩ := Int.eq_ofNat_of_zero_le h
  exact tl_num n
theorem num_free {i : Int} (h : 0 ≤ i) {c : Nat} (hc : c < 48 ∨ 57 < c) : c ∉ num i := by
  rw [num_eq h]; exact numL_free hc
def isRec (r : List Nat) : Bool := !r.isEmpty && r.all fun c => decide (32 ≤ c) && decide (c ≤ 126)
theorem isRec_free {r : List Nat} (h : isRec r = true) : 10 ∉ r := fun hm => by
  unfold isRec at h
  rw [Bool.and_eq_true] at h
  have := List.all_eq_true.mp h.2 10 hm
  simp at this
/-- a line without its line feed -/
def lineL (i a : Int) (r : List Nat) : List Nat := num i ++ 32 :: (num (sumB a r) ++ 32 :: r)
def jour (i a : Int) : List (List Nat) → List Nat
  | [] => []
  | r :: rs => lineL i a r ++ 10 :: jour (i + 1) (sumB a r) rs
theorem lineL_free {i a : Int} {r : List Nat} (hi : 0 ≤ i) (h0 : 0 ≤ a) (h1 : a < 1000000007) (hr : 10 ∉ r) : 10 ∉ lineL i a r := by
  unfold lineL
  have k1 := num_free hi (c := 10) (by omega)
  have k2 := num_free (sumB_range r a h0 h1).1 (c := 10) (by omega)
  simp [k1, k2, hr]
/-- the sum behind -/
def sumsB (a : Int) (rs : List (List Nat)) : Int := rs.foldl sumB a
theorem sumsB_range : ∀ (rs : List (List Nat)) (a : Int), 0 ≤ a → a < 1000000007 → 0 ≤ sumsB a rs ∧ sumsB a rs < 1000000007
  | [], _, h0, h1 => ⟨h0, h1⟩
  | r :: rs, a, h0, h1 => by
    have k := sumB_range r a h0 h1
    exact sumsB_range rs _ k.1 k.2
theorem jour_snoc : ∀ (rs : List (List Nat)) (i a : Int) (r : List Nat), jour i a (rs ++ [r]) = jour i a rs ++ (lineL (i + rs.length) (sumsB a rs) r ++ [10])
  | [], i, a, r => by simp [jour, sumsB]
  | q :: rs, i, a, r => by
    rw [List.cons_append]
    show lineL i a q ++ 10 :: jour (i + 1) (sumB a q) (rs ++ [r]) = _
    rw [jour_snoc rs (i + 1) (sumB a q) r]
    have e : i + 1 + (rs.length : Int) = i + ((q :: rs).length : Int) := by simp; omega
    rw [e]
    show _ = (lineL i a q ++ 10 :: jour (i + 1) (sumB a q) rs) ++ _
    simp [sumsB]
/-- a line as a record -/
def recOf (i a : Int) (l r : List Nat) : Prop := l = lineL i a r ∧ isRec r = true
/-- how the program finds it: by splitMax -/
theorem rec_cut2 {i a : Int} (hi : 0 ≤ i) (h0 : 0 ≤ a) (h1 : a < 1000000007) {l : List Nat} {ps : List (List Nat)} (h : cut2 32 l ps) : (∀ r, recOf i a l r → ps = [num i, num (sumB a r), r]) ∧
    (∀ w0 w1 r, ps = [w0, w1, r] → w0 = num i → w1 = num (sumB a r) → isRec r = true → recOf i a l r) := by
  refine ⟨fun r ⟨e, hr⟩ => ?_, fun w0 w1 r e e0 e1 hr => ?_⟩
  · have f0 := num_free hi (c := 32) (by omega)
    have f1 := num_free (sumB_range r a h0 h1).1 (c := 32) (by omega)
    rcases h with ⟨n, _⟩ | ⟨x, y, e2, n1, n2, _⟩ | ⟨x, y, z, e2, n1, n2, e3⟩
    · exact absurd (by rw [e]; simp [lineL]) n
    · rw [e] at e2
      obtain ⟨_, k⟩ := cut_uniq f0 n1 e2
      exact absurd (by rw [← k]; simp) n2
    · rw [e] at e2
      obtain ⟨k1, k⟩ := cut_uniq f0 n1 e2
      obtain ⟨k2, k3⟩ := cut_uniq f1 n2 k
      rw [e3, k1, k2, k3]
  · subst e0 e1
    rcases h with ⟨_, e2⟩ | ⟨x, y, _, _, _, e2⟩ | ⟨x, y, z, e3, _, _, e2⟩
    · rw [e] at e2; simp at e2
    · rw [e] at e2; simp at e2
    · rw [e] at e2
      simp at e2
      obtain ⟨k1, k2, k3⟩ := e2
      subst k1 k2 k3
      exact ⟨e3, hr⟩
/-- the two words ahead and what is behind them, by split -/
def behind2 (l : List Nat) : List Nat := match cutc 32 l with
  | w0 :: w1 :: _ :: _ => l.drop (w0.length + w1.length + 2)
  | _ => []
theorem behind_line {i a : Int} (hi : 0 ≤ i) (h0 : 0 ≤ a) (h1 : a < 1000000007) (r : List Nat) : behind2 (lineL i a r) = r := by
  have f0 := num_free hi (c := 32) (by omega)
  have f1 := num_free (sumB_range r a h0 h1).1 (c := 32) (by omega)
  have e : cutc 32 (lineL i a r) = num i :: num (sumB a r) :: cutc 32 r := by
    unfold lineL
    rw [cutc_part f0, cutc_part f1]
  obtain ⟨p, q, e2⟩ : ∃ p q, cutc 32 r = p :: q := by
    obtain ⟨ls, last, e3, _⟩ := lines_of 32 r.length r (Nat.le_refl _)
    cases ls with
    | nil => exact ⟨_, _, e3⟩
    | cons x y => exact ⟨_, _, e3⟩
  unfold behind2
  rw [e, e2]
  simp only
  unfold lineL
  have e4 : (num i ++ 32 :: (num (sumB a r) ++ 32 :: r)) = (num i ++ 32 :: (num (sumB a r) ++ [32])) ++ r := by simp
  rw [e4]
  exact List.drop_left' (by simp; omega)
/-- how the law finds it: whether the text goes on with the journal's line -/
theorem rec_pre {i a : Int} (hi : 0 ≤ i) (h0 : 0 ≤ a) (h1 : a < 1000000007) {l rest : List Nat} (hl : 10 ∉ l) : (∀ r, recOf i a l r → behind2 l = r ∧ (lineL i a r ++ [10]) <+: (l ++ 10 :: rest)) ∧
    (∀ r, isRec r = true → (lineL i a r ++ [10]) <+: (l ++ 10 :: rest) → recOf i a l r) := by
  refine ⟨fun r ⟨e, hr⟩ => ?_, fun r hr ⟨t, e⟩ => ?_⟩
  · rw [e]
    exact ⟨behind_line hi h0 h1 r, rest, by simp⟩
  · have e2 : lineL i a r ++ 10 :: t = l ++ 10 :: rest := by rw [← e]; simp
    exact ⟨(cut_uniq (lineL_free hi h0 h1 (isRec_free hr)) hl e2).1.symm, hr⟩
/-- what is opened: the longest run of lines that are records -/
inductive Opens : Int → Int → List (List Nat) → List (List Nat) → Prop
  | nil {i a} : Opens i a [] []
  | stop {i a l ls} (h : ∀ r, ¬ recOf i a l r) : Opens i a (l :: ls) []
  | go {i a l ls r rs} (h : recOf i a l r) (t : Opens (i + 1) (sumB a r) ls rs) : Opens i a (l :: ls) (r :: rs)
theorem recOf_uniq {i a : Int} (hi : 0 ≤ i) (h0 : 0 ≤ a) (h1 : a < 1000000007) {l r s : List Nat} (h : recOf i a l r) (k : recOf i a l s) : r = s := by
  rw [← behind_line hi h0 h1 r, ← behind_line hi h0 h1 s, ← h.1, ← k.1]
theorem Opens.uniq : ∀ {ls : List (List Nat)} {i a : Int} {rs ss : List (List Nat)}, 0 ≤ i → 0 ≤ a → a < 1000000007 → Opens i a ls rs → Opens i a ls ss → rs = ss
  | _, _, _, _, _, _, _, _, .nil, .nil => rfl
  | _, _, _, _, _, _, _, _, .stop _, .stop _ => rfl
  | _, _, _, _, _, _, _, _, .stop h, .go k _ => absurd k (h _)
  | _, _, _, _, _, _, _, _, .go k _, .stop h => absurd k (h _)
  | _, i, a, _, _, hi, h0, h1, .go (r := r) k t, .go k' t' => by
    have e := recOf_uniq hi h0 h1 k k'
    subst e
    have q := sumB_range r a h0 h1
    rw [Opens.uniq (by omega) q.1 q.2 t t']
theorem Opens.recs {i a : Int} {ls rs : List (List Nat)} (h : Opens i a ls rs) : ∀ r ∈ rs, isRec r = true := by
  induction h with
  | nil => simp
  | stop _ => simp
  | go k _ ih =>
    intro r hr
    rcases List.mem_cons.mp hr with rfl | hr
    · exact k.2
    · exact ih r hr
theorem Opens.len {i a : Int} {ls rs : List (List Nat)} (h : Opens i a ls rs) : rs.length ≤ ls.length := by
  induction h with
  | nil => simp
  | stop _ => simp
  | go _ _ ih => simp; omega
/-- the lines of a journal -/
def jlines (i a : Int) : List (List Nat) → List (List Nat)
  | [] => []
  | r :: rs => lineL i a r :: jlines (i + 1) (sumB a r) rs
theorem jour_lines : ∀ (rs : List (List Nat)) (i a : Int), jour i a rs = ((jlines i a rs).map (· ++ [10])).flatten
  | [], _, _ => rfl
  | r :: rs, i, a => by simp [jour, jlines, jour_lines rs]
theorem jlines_len : ∀ (rs : List (List Nat)) (i a : Int), (jlines i a rs).length = rs.length
  | [], _, _ => rfl
  | r :: rs, i, a => by simp [jlines, jlines_len rs]
theorem jlines_free : ∀ (rs : List (List Nat)) (i a : Int), 0 ≤ i → 0 ≤ a → a < 1000000007 → (∀ r ∈ rs, isRec r = true) → ∀ l ∈ jlines i a rs, 10 ∉ l
  | [], _, _, _, _, _, _, l, h => by simp [jlines] at h
  | r :: rs, i, a, hi, h0, h1, hr, l, h => by
    have q := sumB_range r a h0 h1
    rcases List.mem_cons.mp h with rfl | h
    · exact lineL_free hi h0 h1 (isRec_free (hr r (by simp)))
    · exact jlines_free rs (i + 1) _ (by omega) q.1 q.2 (fun x hx => hr x (by simp [hx])) l h
theorem opens_jlines : ∀ (rs : List (List Nat)) (i a : Int), (∀ r ∈ rs, isRec r = true) → Opens i a (jlines i a rs) rs
  | [], _, _, _ => .nil
  | r :: rs, i, a, h => .go ⟨rfl, h r (by simp)⟩ (opens_jlines rs _ _ fun x hx => h x (by simp [hx]))
theorem opens_take : ∀ (rs : List (List Nat)) (i a : Int) (n : Nat), (∀ r ∈ rs, isRec r = true) → Opens i a ((jlines i a rs).take n) (rs.take n)
  | [], _, _, n, _ => by simp [jlines]; exact .nil
  | r :: rs, i, a, 0, _ => by simp; exact .nil
  | r :: rs, i, a, n + 1, h => by simp only [jlines, List.take_succ_cons]; exact .go ⟨rfl, h r (by simp)⟩ (opens_take rs _ _ n fun x hx => h x (by simp [hx]))
/-- a journal cut anywhere: its whole lines -/
theorem cut_lines {c : Nat} : ∀ {ls : List (List Nat)} (n : Nat), (∀ x ∈ ls, c ∉ x) → ∃ k last, cutc c (((ls.map (· ++ [c])).flatten).take n) = ls.take k ++ [last] ∧ (ls.take k).length = k
  | [], n, _ => ⟨0, [], by simp [cutc_last], rfl⟩
  | a :: ls, n, h => by
    have ha := h a (by simp)
    have e : ((a :: ls).map (· ++ [c])).flatten = a ++ c :: (ls.map (· ++ [c])).flatten := by simp
    rw [e]
    by_cases k : n ≤ a.length
    · refine ⟨0, a.take n, ?_, rfl⟩
      rw [List.take_append_of_le_length k, cutc_last fun hm => ha (List.mem_of_mem_take hm)]
      rfl
    · obtain ⟨m, rfl⟩ : ∃ m, n = a.length + (m + 1) := ⟨n - a.length - 1, by omega⟩
      obtain ⟨j, last, e2, e3⟩ := cut_lines (ls := ls) m (fun x hx => h x (by simp [hx]))
      refine ⟨j + 1, last, ?_, by simp [e3]⟩
      have e4 : (a ++ c :: (ls.map (· ++ [c])).flatten).take (a.length + (m + 1)) = a ++ c :: ((ls.map (· ++ [c])).flatten).take m := by
        rw [List.take_append, List.take_of_length_le (by omega)]
        simp
      rw [e4, cutc_part ha, e2]
      rfl
end T64
end
section
set_option maxRecDepth 100000
set_option maxHeartbeats 4000000
namespace W
open PySem L2 DL
def top (i : Nat) : Stmt := PySem.Challenge.pw_wellstrewn_k64_journals.main.body.getD i (.Pass ⟨0, 0, 0, 0⟩)
structure Nms (mg : Str → Option Value) : Prop where
  all : mg "all" = none
  enumerate : mg "enumerate" = none
  int : mg "int" = none
  isinstance : mg "isinstance" = none
  len : mg "len" = none
  list : mg "list" = none
  ord : mg "ord" = none
  range : mg "range" = none
  repr : mg "repr" = none
  sorted : mg "sorted" = none
  str : mg "str" = none
  tuple : mg "tuple" = none
  c_FIRST_SIGN : ∃ t, mg "FIRST_SIGN" = some (.int 32 t)
  c_LAST_SIGN : ∃ t, mg "LAST_SIGN" = some (.int 126 t)
  c_MODULUS : ∃ t, mg "MODULUS" = some (.int 1000000007 t)
section
variable {P : Program} {w : World} {K : PySem.W.Frag} {mg : Str → Option Value} {base : Heap}
noncomputable def el_is_record_1 : MA := (mLeaf mYes (mChain dLe dLe (ret (.int 32)) (mC1 dOrd (mVB 1)) (ret (.int 126))))
noncomputable def b_is_record : MS := (mSeq (mIfS (mOr (mNot (mTst (mIsStr (mV 0)))) (mTst (mOp dEq (mVB 0) (mB (ret (.str ""))))))
 (mSeq (mRet (ret (.bool false)))
 mNext)
 mNext)
 (mSeq (mRet (mC1 dAll (mB (mFz (mLc (mSigns (mV 0)) [1] (mgN 1) el_is_record_1)))))
 mNext))
noncomputable def m_is_record : Fnm := fnOf 2 b_is_record

abbrev s_is_record : Stmt := top 7
theorem sc_is_record : FnScope ["thing", "sign"] ["thing"] (defScope s_is_record) := ⟨rfl, rfl, rfl, by decide +kernel, rfl, by decide +kernel, by decide +kernel⟩
theorem nd_is_record : (["thing", "sign"] : List Str).Nodup := by decide +kernel
theorem cal_is_record {f : Addr} {fd : FuncData} (T : Nms mg) (F : Fun K "is_record" "is_record" s_is_record f fd) (hm : mg "is_record" = some (.ref f)) (hb : Binds K fd ["thing"] [])  : Cal P w K mg base "is_record" 1 1 m_is_record :=
  cal_of F sc_is_record hm hb rfl rfl fun cdv A outer s H E hr => have hN := nd_is_record; ⟨_, (dss_cons (ds_if (DW.t (dw_or (dt_not (dt_val (de_isStr (K := K) T.isinstance T.str (de_var 0)))) (dw_or1 (dt_eq (K := K) hr.room (db_var 0) (DE.b de_str)))))
 (dss_cons (ds_ret de_bl)
 dss_nil)
 dss_nil)
 (dss_cons (ds_ret (de_all (K := K) T.all (DE.b (DN.fz (dn_lc rfl hN (own := [("sign", 1)]) (di_str (de_var 0)) (by kernel_rfl) (fun _ _ _ _ _ => (dg_name 1 hN)) (fun _ _ _ _ _ => dts_nil) (fun _ _ _ _ _ => (de_lele (de_globI T.c_FIRST_SIGN) (de_ord T.ord (db_var 1)) (de_globI T.c_LAST_SIGN))))))))
 dss_nil))⟩

noncomputable def lb_sum_behind_1 : MS := (mSeq (mAsg (mOp dMod (mB (mOp dAdd (mB (mOp dSub (mB (mOp dAdd (mB (mOp dMul (mVB 0) (mB (ret (.int 97))))) (mB (mC1 dOrd (mVB 2))))) (mB (ret (.int 32))))) (mB (ret (.int 1))))) (mB (ret (.int 1000000007)))) (mgN 0))
 mNext)
noncomputable def b_sum_behind : MS := (mSeq (mFor (mSigns (mV 1)) (mgN 2) lb_sum_behind_1)
 (mSeq (mRet (mV 0))
 mNext))
noncomputable def m_sum_behind : Fnm := fnOf 3 b_sum_behind

abbrev s_sum_behind : Stmt := top 8
theorem sc_sum_behind : FnScope ["ahead", "record", "sign"] ["ahead", "record"] (defScope s_sum_behind) := ⟨rfl, rfl, rfl, by decide +kernel, rfl, by decide +kernel, by decide +kernel⟩
theorem nd_sum_behind : (["ahead", "record", "sign"] : List Str).Nodup := by decide +kernel
theorem cal_sum_behind {f : Addr} {fd : FuncData} (T : Nms mg) (F : Fun K "sum_behind" "sum_behind" s_sum_behind f fd) (hm : mg "sum_behind" = some (.ref f)) (hb : Binds K fd ["ahead", "record"] [])  : Cal P w K mg base "sum_behind" 1 2 m_sum_behind :=
  cal_of F sc_sum_behind hm hb rfl rfl fun cdv A outer s H E hr => have hN := nd_sum_behind; ⟨_, (dss_cons (ds_for (di_str (de_var 1)) (dg_name 2 hN)
 (dss_cons (ds_set 0 hN (de_mod (DE.b (de_add (K := K) (DE.b (de_sub (DE.b (de_add (K := K) (DE.b (de_mul (db_var 0) (DE.b de_int))) (DE.b (de_ord T.ord (db_var 2))))) (DE.b (de_globI T.c_FIRST_SIGN)))) (DE.b de_int))) (DE.b (de_globI T.c_MODULUS))))
 dss_nil))
 (dss_cons (ds_ret (de_var 0))
 dss_nil))⟩

noncomputable def lb_journal_of_1 : MS := (mSeq (mAsg (mRE (mCall m_sum_behind (mCons (mVB 2) (mCons (mVB 4) mNil)))) (mgN 2))
 (mSeq (mDrop (mMtE 1 fApp (mOp dAdd (mB (mOp dAdd (mB (mOp dAdd (mB (mOp dAdd (mB (mOp dAdd (mB (mC1 dStr (mVB 3))) (mB (ret (.str " "))))) (mB (mC1 dStr (mVB 2))))) (mB (ret (.str " "))))) (mVB 4))) (mB (ret (.str "\n"))))))
 mNext))
noncomputable def b_journal_of : MS := (mSeq (mPar [1, 2] [(mLst mNil), (mXe (ret (.int 0)))])
 (mSeq (mFor (mEnum (mVB 0)) (mgT [(mgN 3), (mgN 4)]) lb_journal_of_1)
 (mSeq (mRet (mS1 dJoin (ret (.str "")) (mVB 1)))
 mNext)))
noncomputable def m_journal_of : Fnm := fnOf 5 b_journal_of

abbrev s_journal_of : Stmt := top 9
theorem sc_journal_of : FnScope ["records", "found", "ahead", "index", "record"] ["records"] (defScope s_journal_of) := ⟨rfl, rfl, rfl, by decide +kernel, rfl, by decide +kernel, by decide +kernel⟩
theorem nd_journal_of : (["records", "found", "ahead", "index", "record"] : List Str).Nodup := by decide +kernel
theorem cal_journal_of {f : Addr} {fd : FuncData} (T : Nms mg) (F : Fun K "journal_of" "journal_of" s_journal_of f fd) (hm : mg "journal_of" = some (.ref f)) (hb : Binds K fd ["records"] []) (C_sum_behind : Cal P w K mg base "sum_behind" 1 2 m_sum_behind) : Cal P w K mg base "journal_of" 2 1 m_journal_of :=
  cal_of F sc_journal_of hm hb rfl rfl fun cdv A outer s H E hr => have hN := nd_journal_of; ⟨_, (dss_cons (ds_par2 1 2 rfl hN (dx_new (dn_lst da_nil) (dx_val de_int dx_nil)) (hw := by rfl))
 (dss_cons (ds_for (di_enum (K := K) T.enumerate (db_var 0)) (dg_tup (dgs_cons (dg_name 3 hN) (dgs_cons (dg_name 4 hN) dgs_nil noPin_name) noPin_name))
 (dss_cons (ds_set 2 hN (DR.de (dr_call C_sum_behind (hr.mono (by decide)) (da_cons (db_var 2) (da_cons (db_var 4) da_nil)))))
 (dss_cons (ds_expr (de_append 1 (de_add (K := K) (DE.b (de_add (K := K) (DE.b (de_add (K := K) (DE.b (de_add (K := K) (DE.b (de_add (K := K) (DE.b (de_strC T.str (db_var 3))) (DE.b de_str))) (DE.b (de_strC T.str (db_var 2))))) (DE.b de_str))) (db_var 4))) (DE.b de_str))))
 dss_nil)))
 (dss_cons (ds_ret (de_join (K := K) de_str (db_var 1)))
 dss_nil)))⟩

noncomputable def b_record_in : MS := (mSeq (mAsg (mFz (mS2N dSplit2 (mV 0) (ret (.str " ")) (ret (.int 2)))) (mgN 3))
 (mSeq (mIfS (mOr (mTst (mOp dLt (mB (mC1 dLen (mVB 3))) (mB (ret (.int 3))))) (mOr (mTst (mOp dNe (mB (mOp dIx (mVB 3) (mB (ret (.int 0))))) (mB (mC1 dStr (mVB 1))))) (mNot (mTst (mRE (mCall m_is_record (mCons (mB (mOp dIx (mVB 3) (mB (ret (.int 2))))) mNil)))))))
 (mSeq (mRet (ret .none))
 mNext)
 mNext)
 (mSeq (mRet (mIf (mTst (mOp dEq (mB (mOp dIx (mVB 3) (mB (ret (.int 1))))) (mB (mC1 dStr (mB (mRE (mCall m_sum_behind (mCons (mVB 2) (mCons (mB (mOp dIx (mVB 3) (mB (ret (.int 2))))) mNil))))))))) (mOp dIx (mVB 3) (mB (ret (.int 2)))) (ret .none)))
 mNext)))
noncomputable def m_record_in : Fnm := fnOf 4 b_record_in

abbrev s_record_in : Stmt := top 10
theorem sc_record_in : FnScope ["line", "index", "ahead", "words"] ["line", "index", "ahead"] (defScope s_record_in) := ⟨rfl, rfl, rfl, by decide +kernel, rfl, by decide +kernel, by decide +kernel⟩
theorem nd_record_in : (["line", "index", "ahead", "words"] : List Str).Nodup := by decide +kernel
theorem cal_record_in {f : Addr} {fd : FuncData} (T : Nms mg) (F : Fun K "record_in" "record_in" s_record_in f fd) (hm : mg "record_in" = some (.ref f)) (hb : Binds K fd ["line", "index", "ahead"] []) (C_sum_behind : Cal P w K mg base "sum_behind" 1 2 m_sum_behind) (C_is_record : Cal P w K mg base "is_record" 1 1 m_is_record) : Cal P w K mg base "record_in" 2 3 m_record_in :=
  cal_of F sc_record_in hm hb rfl rfl fun cdv A outer s H E hr => have hN := nd_record_in; ⟨_, (dss_cons (ds_set 3 hN (DN.fz (dn_split2 (K := K) (de_var 0) de_str de_int)))
 (dss_cons (ds_if (DW.t (dw_or (dt_lt (DE.b (de_len (K := K) T.len (db_var 3))) (DE.b de_int)) (dw_or (dt_ne (K := K) hr.room (DE.b (de_ix (K := K) (db_var 3) (DE.b de_int))) (DE.b (de_strC T.str (db_var 1)))) (dw_or1 (dt_not (dt_val (DR.de (dr_call C_is_record (hr.mono (by decide)) (da_cons (DE.b (de_ix (K := K) (db_var 3) (DE.b de_int))) da_nil)))))))))
 (dss_cons (ds_ret de_non)
 dss_nil)
 dss_nil)
 (dss_cons (ds_ret (de_if (dt_eq (K := K) hr.room (DE.b (de_ix (K := K) (db_var 3) (DE.b de_int))) (DE.b (de_strC T.str (DE.b (DR.de (dr_call C_sum_behind (hr.mono (by decide)) (da_cons (db_var 2) (da_cons (DE.b (de_ix (K := K) (db_var 3) (DE.b de_int))) da_nil)))))))) (de_ix (K := K) (db_var 3) (DE.b de_int)) de_non))
 dss_nil)))⟩

noncomputable def lb_opened_1 : MS := (mSeq (mAsg (mRE (mCall m_record_in (mCons (mVB 3) (mCons (mB (mC1 dLen (mVB 1))) (mCons (mVB 2) mNil))))) (mgN 4))
 (mSeq (mIfS (mTst (mIsN false (mV 4)))
 (mSeq (ret .bk)
 mNext)
 mNext)
 (mSeq (mDrop (mMtE 1 fApp (mV 4)))
 (mSeq (mAsg (mRE (mCall m_sum_behind (mCons (mVB 2) (mCons (mVB 4) mNil)))) (mgN 2))
 mNext))))
noncomputable def b_opened : MS := (mSeq (mIfS (mNot (mTst (mIsStr (mV 0))))
 (mSeq mNever
 mNext)
 mNext)
 (mSeq (mPar [1, 2] [(mLst mNil), (mXe (ret (.int 0)))])
 (mSeq (mFor (mSeq1 (mB (mFz (mSlL (mB (mFz (mS1N dSplit (mV 0) (ret (.str "\n"))))) mNoP (mPart (mNeg (ret (.int 1)))))))) (mgN 3) lb_opened_1)
 (mSeq (mRet (mC1 dTuple (mVB 1)))
 mNext))))
noncomputable def m_opened : Fnm := fnOf 5 b_opened

abbrev s_opened : Stmt := top 11
theorem sc_opened : FnScope ["text", "found", "ahead", "line", "record"] ["text"] (defScope s_opened) := ⟨rfl, rfl, rfl, by decide +kernel, rfl, by decide +kernel, by decide +kernel⟩
theorem nd_opened : (["text", "found", "ahead", "line", "record"] : List Str).Nodup := by decide +kernel
theorem cal_opened {f : Addr} {fd : FuncData} (T : Nms mg) (F : Fun K "opened" "opened" s_opened f fd) (hm : mg "opened" = some (.ref f)) (hb : Binds K fd ["text"] []) (C_sum_behind : Cal P w K mg base "sum_behind" 1 2 m_sum_behind) (C_record_in : Cal P w K mg base "record_in" 2 3 m_record_in) : Cal P w K mg base "opened" 3 1 m_opened :=
  cal_of F sc_opened hm hb rfl rfl fun cdv A outer s H E hr => have hN := nd_opened; ⟨_, (dss_cons (ds_if (dt_not (dt_val (de_isStr (K := K) T.isinstance T.str (de_var 0))))
 (dss_cons ds_never
 dss_nil)
 dss_nil)
 (dss_cons (ds_par2 1 2 rfl hN (dx_new (dn_lst da_nil) (dx_val de_int dx_nil)) (hw := by rfl))
 (dss_cons (ds_for (di_seq (K := K) (DE.b (DN.fz (dn_sl (K := K) (DE.b (DN.fz (dn_split (de_var 0) de_str))) dp_none (dp_some (de_neg de_int)))))) (dg_name 3 hN)
 (dss_cons (ds_set 4 hN (DR.de (dr_call C_record_in (hr.mono (by decide)) (da_cons (db_var 3) (da_cons (DE.b (de_len (K := K) T.len (db_var 1))) (da_cons (db_var 2) da_nil))))))
 (dss_cons (ds_if (dt_isN (de_var 4))
 (dss_cons ds_break
 dss_nil)
 dss_nil)
 (dss_cons (ds_expr (de_append 1 (de_var 4)))
 (dss_cons (ds_set 2 hN (DR.de (dr_call C_sum_behind (hr.mono (by decide)) (da_cons (db_var 2) (da_cons (db_var 4) da_nil)))))
 dss_nil)))))
 (dss_cons (ds_ret (de_tuple (K := K) T.tuple (db_var 1)))
 dss_nil))))⟩

noncomputable def b_with_record : MS := (mSeq (mAsg (mRE (mCall m_opened (mCons (mVB 0) mNil))) (mgN 2))
 (mSeq (mIfS (mNot (mTst (mRE (mCall m_is_record (mCons (mVB 1) mNil)))))
 (mSeq mNever
 mNext)
 mNext)
 (mSeq (mRet (mRE (mCall m_journal_of (mCons (mB (mFz (mLst (mStar (mVB 2) (mCons (mVB 1) mNil))))) mNil))))
 mNext)))
noncomputable def m_with_record : Fnm := fnOf 3 b_with_record

abbrev s_with_record : Stmt := top 12
theorem sc_with_record : FnScope ["text", "record", "records"] ["text", "record"] (defScope s_with_record) := ⟨rfl, rfl, rfl, by decide +kernel, rfl, by decide +kernel, by decide +kernel⟩
theorem nd_with_record : (["text", "record", "records"] : List Str).Nodup := by decide +kernel
theorem cal_with_record {f : Addr} {fd : FuncData} (T : Nms mg) (F : Fun K "with_record" "with_record" s_with_record f fd) (hm : mg "with_record" = some (.ref f)) (hb : Binds K fd ["text", "record"] []) (C_journal_of : Cal P w K mg base "journal_of" 2 1 m_journal_of) (C_is_record : Cal P w K mg base "is_record" 1 1 m_is_record) (C_opened : Cal P w K mg base "opened" 3 1 m_opened) : Cal P w K mg base "with_record" 4 2 m_with_record :=
  cal_of F sc_with_record hm hb rfl rfl fun cdv A outer s H E hr => have hN := nd_with_record; ⟨_, (dss_cons (ds_set 2 hN (DR.de (dr_call C_opened (hr.mono (by decide)) (da_cons (db_var 0) da_nil))))
 (dss_cons (ds_if (dt_not (dt_val (DR.de (dr_call C_is_record (hr.mono (by decide)) (da_cons (db_var 1) da_nil)))))
 (dss_cons ds_never
 dss_nil)
 dss_nil)
 (dss_cons (ds_ret (DR.de (dr_call C_journal_of (hr.mono (by decide)) (da_cons (DE.b (DN.fz (dn_lst (da_star (K := K) (db_var 2) (da_cons (db_var 1) da_nil))))) da_nil))))
 dss_nil)))⟩

noncomputable def b__law_take : MS := (mSeq (mIfS (mTst (mOp dEq (mB (mOp dIx (mVB 0) (mB (ret (.int 0))))) (mB (ret (.int 0)))))
 (mSeq (mAsg (mOp dIx (mB (mFz (mOpN catL (mB (mFz (mSlL (mB (mOp dIx (mVB 0) (mB (ret (.int 3))))) (mPart (mOp dIx (mVB 0) (mB (ret (.int 2))))) mNoP))) (mB (mFz (mLst (mCons (mB (ret (.int 0))) mNil))))))) (mB (ret (.int 0)))) (mgN 2))
 (mSeq (mAugS 0 (ret (.int 2)) dIadd (ret (.int 1)))
 (mSeq (mIfS (mTst (mOp dGe (mVB 2) (mB (mOp dPow (mB (ret (.int 10))) (mB (ret (.int 18)))))))
 (mSeq (mSetL (mV 2) 0 (ret (.int 0)))
 mNext)
 mNext)
 (mSeq (mAsg (mOp dAdd (mB (mOp dAdd (mB (mOp dMul (mB (mOp dIx (mVB 0) (mB (ret (.int 1))))) (mB (ret (.int 48271))))) (mB (mOp dMod (mB (mC1 dInt (mVB 2))) (mB (ret (.int 2147483647))))))) (mB (mOp dMul (mB (ret (.int 7919))) (mB (mOp dIx (mVB 0) (mB (ret (.int 2)))))))) (mgN 3))
 (mSeq (mSetL (mOp dMod (mB (mC1 dInt (mVB 3))) (mB (ret (.int 2147483647)))) 0 (ret (.int 1)))
 mNext)))))
 mNext)
 (mSeq (mIfS (mTst (mOp dGt (mB (mOp dIx (mVB 0) (mB (ret (.int 0))))) (mB (ret (.int 0)))))
 (mSeq (mAsg (mOp dMod (mB (mC1 dInt (mB (mOp dIx (mVB 0) (mB (ret (.int 0))))))) (mVB 1)) (mgN 4))
 (mSeq (mSetL (mOp dFdiv (mB (mC1 dInt (mB (mOp dIx (mVB 0) (mB (ret (.int 0))))))) (mVB 1)) 0 (ret (.int 0)))
 (mSeq (mRet (mV 4))
 mNext)))
 mNext)
 (mSeq (mAsg (mOp dMod (mB (mC1 dInt (mB (mOp dMul (mB (mOp dAdd (mB (mOp dIx (mVB 0) (mB (ret (.int 1))))) (mB (ret (.int 1))))) (mB (ret (.int 39373))))))) (mB (ret (.int 1000000007)))) (mgN 5))
 (mSeq (mAsg (mOp dMod (mB (mC1 dInt (mB (mOp dMul (mB (mOp dMod (mB (mC1 dInt (mB (mOp dMul (mVB 5) (mVB 5))))) (mB (ret (.int 998244353))))) (mB (ret (.int 30011))))))) (mB (ret (.int 998244353)))) (mgN 6))
 (mSeq (mRet (mOp dMod (mB (mC1 dInt (mB (mOp dFdiv (mVB 6) (mB (ret (.int 7))))))) (mVB 1)))
 mNext)))))
noncomputable def m__law_take : Fnm := fnOf 7 b__law_take

abbrev s__law_take : Stmt := top 15
theorem sc__law_take : FnScope ["bag", "many", "cell", "stirred", "value", "begin", "second"] ["bag", "many"] (defScope s__law_take) := ⟨rfl, rfl, rfl, by decide +kernel, rfl, by decide +kernel, by decide +kernel⟩
theorem nd__law_take : (["bag", "many", "cell", "stirred", "value", "begin", "second"] : List Str).Nodup := by decide +kernel
theorem cal__law_take {f : Addr} {fd : FuncData} (T : Nms mg) (F : Fun K "_law_take" "_law_take" s__law_take f fd) (hm : mg "_law_take" = some (.ref f)) (hb : Binds K fd ["bag", "many"] [])  : Cal P w K mg base "_law_take" 1 2 m__law_take :=
  cal_of F sc__law_take hm hb rfl rfl fun cdv A outer s H E hr => have hN := nd__law_take; ⟨_, (dss_cons (ds_if (dt_eq (K := K) hr.room (DE.b (de_ix (K := K) (db_var 0) (DE.b de_int))) (DE.b de_int))
 (dss_cons (ds_set 2 hN (de_ix (K := K) (DE.b (DN.fz (dn_cat (DE.b (DN.fz (dn_sl (K := K) (DE.b (de_ix (K := K) (db_var 0) (DE.b de_int))) (dp_some (de_ix (K := K) (db_var 0) (DE.b de_int))) dp_none))) (DE.b (DN.fz (dn_lst (da_cons (DE.b de_int) da_nil))))))) (DE.b de_int)))
 (dss_cons (ds_augS 0 ip_add simIp_add de_int de_int)
 (dss_cons (ds_if (dt_ge (db_var 2) (DE.b (de_pow (DE.b de_int) (DE.b de_int))))
 (dss_cons (ds_setL 0 (de_var 2) de_int)
 dss_nil)
 dss_nil)
 (dss_cons (ds_set 3 hN (de_add (K := K) (DE.b (de_add (K := K) (DE.b (de_mul (DE.b (de_ix (K := K) (db_var 0) (DE.b de_int))) (DE.b de_int))) (DE.b (de_mod (DE.b (de_intC T.int (db_var 2))) (DE.b de_int))))) (DE.b (de_mul (DE.b de_int) (DE.b (de_ix (K := K) (db_var 0) (DE.b de_int)))))))
 (dss_cons (ds_setL 0 (de_mod (DE.b (de_intC T.int (db_var 3))) (DE.b de_int)) de_int)
 dss_nil)))))
 dss_nil)
 (dss_cons (ds_if (dt_gt (DE.b (de_ix (K := K) (db_var 0) (DE.b de_int))) (DE.b de_int))
 (dss_cons (ds_set 4 hN (de_mod (DE.b (de_intC T.int (DE.b (de_ix (K := K) (db_var 0) (DE.b de_int))))) (db_var 1)))
 (dss_cons (ds_setL 0 (de_fdiv (DE.b (de_intC T.int (DE.b (de_ix (K := K) (db_var 0) (DE.b de_int))))) (db_var 1)) de_int)
 (dss_cons (ds_ret (de_var 4))
 dss_nil)))
 dss_nil)
 (dss_cons (ds_set 5 hN (de_mod (DE.b (de_intC T.int (DE.b (de_mul (DE.b (de_add (K := K) (DE.b (de_ix (K := K) (db_var 0) (DE.b de_int))) (DE.b de_int))) (DE.b de_int))))) (DE.b de_int)))
 (dss_cons (ds_set 6 hN (de_mod (DE.b (de_intC T.int (DE.b (de_mul (DE.b (de_mod (DE.b (de_intC T.int (DE.b (de_mul (db_var 5) (db_var 5))))) (DE.b de_int))) (DE.b de_int))))) (DE.b de_int)))
 (dss_cons (ds_ret (de_mod (DE.b (de_intC T.int (DE.b (de_fdiv (db_var 6) (DE.b de_int))))) (db_var 1)))
 dss_nil)))))⟩

noncomputable def b__law_some : MS := (mSeq (mRet (mOp dIx (mVB 1) (mB (mRE (mCall m__law_take (mCons (mVB 0) (mCons (mB (mC1 dLen (mVB 1))) mNil)))))))
 mNext)
noncomputable def m__law_some : Fnm := fnOf 2 b__law_some

abbrev s__law_some : Stmt := top 16
theorem sc__law_some : FnScope ["bag", "things"] ["bag", "things"] (defScope s__law_some) := ⟨rfl, rfl, rfl, by decide +kernel, rfl, by decide +kernel, by decide +kernel⟩
theorem nd__law_some : (["bag", "things"] : List Str).Nodup := by decide +kernel
theorem cal__law_some {f : Addr} {fd : FuncData} (T : Nms mg) (F : Fun K "_law_some" "_law_some" s__law_some f fd) (hm : mg "_law_some" = some (.ref f)) (hb : Binds K fd ["bag", "things"] []) (C__law_take : Cal P w K mg base "_law_take" 1 2 m__law_take) : Cal P w K mg base "_law_some" 2 2 m__law_some :=
  cal_of F sc__law_some hm hb rfl rfl fun cdv A outer s H E hr => have hN := nd__law_some; ⟨_, (dss_cons (ds_ret (de_ix (K := K) (db_var 1) (DE.b (DR.de (dr_call C__law_take (hr.mono (by decide)) (da_cons (db_var 0) (da_cons (DE.b (de_len (K := K) T.len (db_var 1))) da_nil)))))))
 dss_nil)⟩

noncomputable def el__law_record_1 : MA := (mLeaf mYes (mRE (mCall m__law_some (mCons (mVB 0) (mCons (mVB 2) mNil)))))
noncomputable def b__law_record : MS := (mSeq (mAsg (mFz (mLst (mCons (mB (ret (.str "book a world w|region r 1"))) (mCons (mB (ret (.str "race r a 0"))) (mCons (mB (ret (.str "deed r 3 open w r 0"))) (mCons (mB (ret (.str " "))) (mCons (mB (ret (.str "~"))) (mCons (mB (ret (.str "0"))) (mCons (mB (ret (.str "0 66 a"))) (mCons (mB (ret (.str "x  y "))) (mCons (mB (ret (.str "|"))) (mCons (mB (ret (.str "\"'\\"))) mNil)))))))))))) (mgN 1))
 (mSeq (mAsg (ret (.str " !\"#$&'()*+,-./09:;<=>?@AZ[]^_`az{|}~")) (mgN 2))
 (mSeq (mIfS (mTst (mOp dEq (mB (mRE (mCall m__law_take (mCons (mVB 0) (mCons (mB (ret (.int 2))) mNil))))) (mB (ret (.int 0)))))
 (mSeq (mRet (mRE (mCall m__law_some (mCons (mVB 0) (mCons (mVB 1) mNil)))))
 mNext)
 mNext)
 (mSeq (mRet (mS1 dJoin (ret (.str "")) (mB (mFz (mLc (mRng1 (mOp dAdd (mB (ret (.int 1))) (mB (mRE (mCall m__law_take (mCons (mVB 0) (mCons (mB (ret (.int 9))) mNil))))))) [3] (mgN 3) el__law_record_1)))))
 mNext))))
noncomputable def m__law_record : Fnm := fnOf 4 b__law_record

abbrev s__law_record : Stmt := top 17
theorem sc__law_record : FnScope ["bag", "words", "signs", "turn"] ["bag"] (defScope s__law_record) := ⟨rfl, rfl, rfl, by decide +kernel, rfl, by decide +kernel, by decide +kernel⟩
theorem nd__law_record : (["bag", "words", "signs", "turn"] : List Str).Nodup := by decide +kernel
theorem cal__law_record {f : Addr} {fd : FuncData} (T : Nms mg) (F : Fun K "_law_record" "_law_record" s__law_record f fd) (hm : mg "_law_record" = some (.ref f)) (hb : Binds K fd ["bag"] []) (C__law_take : Cal P w K mg base "_law_take" 1 2 m__law_take) (C__law_some : Cal P w K mg base "_law_some" 2 2 m__law_some) : Cal P w K mg base "_law_record" 3 1 m__law_record :=
  cal_of F sc__law_record hm hb rfl rfl fun cdv A outer s H E hr => have hN := nd__law_record; ⟨_, (dss_cons (ds_set 1 hN (DN.fz (dn_lst (da_cons (DE.b de_str) (da_cons (DE.b de_str) (da_cons (DE.b de_str) (da_cons (DE.b de_str) (da_cons (DE.b de_str) (da_cons (DE.b de_str) (da_cons (DE.b de_str) (da_cons (DE.b de_str) (da_cons (DE.b de_str) (da_cons (DE.b de_str) da_nil)))))))))))))
 (dss_cons (ds_set 2 hN de_str)
 (dss_cons (ds_if (dt_eq (K := K) hr.room (DE.b (DR.de (dr_call C__law_take (hr.mono (by decide)) (da_cons (db_var 0) (da_cons (DE.b de_int) da_nil))))) (DE.b de_int))
 (dss_cons (ds_ret (DR.de (dr_call C__law_some (hr.mono (by decide)) (da_cons (db_var 0) (da_cons (db_var 1) da_nil)))))
 dss_nil)
 dss_nil)
 (dss_cons (ds_ret (de_join (K := K) de_str (DE.b (DN.fz (dn_lc rfl hN (own := [("turn", 3)]) (di_rng1 T.range (de_add (K := K) (DE.b de_int) (DE.b (DR.de (dr_call C__law_take (hr.mono (by decide)) (da_cons (db_var 0) (da_cons (DE.b de_int) da_nil))))))) (by kernel_rfl) (fun _ _ _ _ _ => (dg_name 3 hN)) (fun _ _ _ _ _ => dts_nil) (fun _ _ _ _ _ => (DR.de (dr_call C__law_some (hr.mono (by decide)) (da_cons (db_var 0) (da_cons (db_var 2) da_nil))))))))))
 dss_nil))))⟩

noncomputable def lb__law_sum_behind_1 : MS := (mSeq (mAsg (mOp dMod (mB (mC1 dInt (mB (mOp dSub (mB (mOp dAdd (mB (mOp dMul (mVB 0) (mB (ret (.int 97))))) (mB (mC1 dOrd (mVB 2))))) (mB (ret (.int 31))))))) (mB (ret (.int 1000000007)))) (mgN 0))
 mNext)
noncomputable def b__law_sum_behind : MS := (mSeq (mFor (mSigns (mV 1)) (mgN 2) lb__law_sum_behind_1)
 (mSeq (mRet (mV 0))
 mNext))
noncomputable def m__law_sum_behind : Fnm := fnOf 3 b__law_sum_behind

abbrev s__law_sum_behind : Stmt := top 18
theorem sc__law_sum_behind : FnScope ["ahead", "record", "sign"] ["ahead", "record"] (defScope s__law_sum_behind) := ⟨rfl, rfl, rfl, by decide +kernel, rfl, by decide +kernel, by decide +kernel⟩
theorem nd__law_sum_behind : (["ahead", "record", "sign"] : List Str).Nodup := by decide +kernel
theorem cal__law_sum_behind {f : Addr} {fd : FuncData} (T : Nms mg) (F : Fun K "_law_sum_behind" "_law_sum_behind" s__law_sum_behind f fd) (hm : mg "_law_sum_behind" = some (.ref f)) (hb : Binds K fd ["ahead", "record"] [])  : Cal P w K mg base "_law_sum_behind" 1 2 m__law_sum_behind :=
  cal_of F sc__law_sum_behind hm hb rfl rfl fun cdv A outer s H E hr => have hN := nd__law_sum_behind; ⟨_, (dss_cons (ds_for (di_str (de_var 1)) (dg_name 2 hN)
 (dss_cons (ds_set 0 hN (de_mod (DE.b (de_intC T.int (DE.b (de_sub (DE.b (de_add (K := K) (DE.b (de_mul (db_var 0) (DE.b de_int))) (DE.b (de_ord T.ord (db_var 2))))) (DE.b de_int))))) (DE.b de_int)))
 dss_nil))
 (dss_cons (ds_ret (de_var 0))
 dss_nil))⟩

noncomputable def lb__law_journal_1 : MS := (mSeq (mAsg (mRE (mCall m__law_sum_behind (mCons (mVB 2) (mCons (mVB 4) mNil)))) (mgN 2))
 (mSeq (mAsg (mOp dAdd (mB (mOp dAdd (mB (mOp dAdd (mB (mOp dAdd (mB (mOp dAdd (mB (mOp dAdd (mVB 1) (mB (mC1 dStr (mVB 3))))) (mB (ret (.str " "))))) (mB (mC1 dStr (mVB 2))))) (mB (ret (.str " "))))) (mVB 4))) (mB (ret (.str "\n")))) (mgN 1))
 mNext))
noncomputable def b__law_journal : MS := (mSeq (mAsg (mTup (mCons (mB (ret (.str ""))) (mCons (mB (ret (.int 0))) mNil))) (mgT [(mgN 1), (mgN 2)]))
 (mSeq (mFor (mEnum (mVB 0)) (mgT [(mgN 3), (mgN 4)]) lb__law_journal_1)
 (mSeq (mRet (mV 1))
 mNext)))
noncomputable def m__law_journal : Fnm := fnOf 5 b__law_journal

abbrev s__law_journal : Stmt := top 19
theorem sc__law_journal : FnScope ["records", "text", "ahead", "index", "record"] ["records"] (defScope s__law_journal) := ⟨rfl, rfl, rfl, by decide +kernel, rfl, by decide +kernel, by decide +kernel⟩
theorem nd__law_journal : (["records", "text", "ahead", "index", "record"] : List Str).Nodup := by decide +kernel
theorem cal__law_journal {f : Addr} {fd : FuncData} (T : Nms mg) (F : Fun K "_law_journal" "_law_journal" s__law_journal f fd) (hm : mg "_law_journal" = some (.ref f)) (hb : Binds K fd ["records"] []) (C__law_sum_behind : Cal P w K mg base "_law_sum_behind" 1 2 m__law_sum_behind) : Cal P w K mg base "_law_journal" 2 1 m__law_journal :=
  cal_of F sc__law_journal hm hb rfl rfl fun cdv A outer s H E hr => have hN := nd__law_journal; ⟨_, (dss_cons (ds_asg (de_tup (da_cons (DE.b de_str) (da_cons (DE.b de_int) da_nil))) (dg_tup (dgs_cons (dg_name 1 hN) (dgs_cons (dg_name 2 hN) dgs_nil noPin_name) noPin_name)))
 (dss_cons (ds_for (di_enum (K := K) T.enumerate (db_var 0)) (dg_tup (dgs_cons (dg_name 3 hN) (dgs_cons (dg_name 4 hN) dgs_nil noPin_name) noPin_name))
 (dss_cons (ds_set 2 hN (DR.de (dr_call C__law_sum_behind (hr.mono (by decide)) (da_cons (db_var 2) (da_cons (db_var 4) da_nil)))))
 (dss_cons (ds_set 1 hN (de_add (K := K) (DE.b (de_add (K := K) (DE.b (de_add (K := K) (DE.b (de_add (K := K) (DE.b (de_add (K := K) (DE.b (de_add (K := K) (db_var 1) (DE.b (de_strC T.str (db_var 3))))) (DE.b de_str))) (DE.b (de_strC T.str (db_var 2))))) (DE.b de_str))) (db_var 4))) (DE.b de_str)))
 dss_nil)))
 (dss_cons (ds_ret (de_var 1))
 dss_nil)))⟩

noncomputable def b__law_alike : MS := (mSeq (mRet (mAndV (mOp dEq (mVB 0) (mVB 1)) (mOp dEq (mB (mC1 dRepr (mVB 0))) (mB (mC1 dRepr (mVB 1))))))
 mNext)
noncomputable def m__law_alike : Fnm := fnOf 2 b__law_alike

abbrev s__law_alike : Stmt := top 20
theorem sc__law_alike : FnScope ["found", "due"] ["found", "due"] (defScope s__law_alike) := ⟨rfl, rfl, rfl, by decide +kernel, rfl, by decide +kernel, by decide +kernel⟩
theorem nd__law_alike : (["found", "due"] : List Str).Nodup := by decide +kernel
theorem cal__law_alike {f : Addr} {fd : FuncData} (T : Nms mg) (F : Fun K "_law_alike" "_law_alike" s__law_alike f fd) (hm : mg "_law_alike" = some (.ref f)) (hb : Binds K fd ["found", "due"] [])  : Cal P w K mg base "_law_alike" 1 2 m__law_alike :=
  cal_of F sc__law_alike hm hb rfl rfl fun cdv A outer s H E hr => have hN := nd__law_alike; ⟨_, (dss_cons (ds_ret (de_and (de_eq (K := K) hr.room (db_var 0) (db_var 1)) (de_one (de_eq (K := K) hr.room (DE.b (de_repr (K := K) hr T.repr (db_var 0))) (DE.b (de_repr (K := K) hr T.repr (db_var 1)))))))
 dss_nil)⟩

noncomputable def b__law_bent_text : MS := (mSeq (mAsg (mFz (mS1N dSplit (mV 1) (ret (.str "\n")))) (mgN 2))
 (mSeq (mPar [3, 4] [(mXe (mRE (mCall m__law_take (mCons (mVB 0) (mCons (mB (ret (.int 9))) mNil))))), (mXe (mRE (mCall m__law_take (mCons (mVB 0) (mCons (mB (mC1 dLen (mVB 2))) mNil)))))])
 (mSeq (mIfS (mTst (mOp dLt (mVB 3) (mB (ret (.int 3)))))
 (mSeq (mRet (mOp dAdd (mB (mSl (mVB 1) mNoP (mPart (mRE (mCall m__law_take (mCons (mVB 0) (mCons (mB (mOp dAdd (mB (mC1 dLen (mVB 1))) (mB (ret (.int 1))))) mNil))))))) (mB (mRE (mCall m__law_some (mCons (mVB 0) (mCons (mB (mFz (mLst (mCons (mB (ret (.str ""))) (mCons (mB (ret (.str ""))) (mCons (mB (ret (.str "\n"))) (mCons (mB (ret (.str "x"))) mNil))))))) mNil)))))))
 mNext)
 mNext)
 (mSeq (mIfS (mTst (mOp dEq (mVB 3) (mB (ret (.int 3)))))
 (mSeq (mAsg (mFz (mOpN catL (mB (mFz (mSlL (mVB 2) mNoP (mPart (mV 4))))) (mB (mFz (mSlL (mVB 2) (mPart (mOp dAdd (mVB 4) (mB (ret (.int 1))))) mNoP))))) (mgN 2))
 mNext)
 mNext)
 (mSeq (mIfS (mTst (mOp dEq (mVB 3) (mB (ret (.int 4)))))
 (mSeq (mAsg (mFz (mOpN catL (mB (mFz (mOpN catL (mB (mFz (mSlL (mVB 2) mNoP (mPart (mV 4))))) (mB (mFz (mSlL (mVB 2) (mPart (mV 4)) (mPart (mOp dAdd (mVB 4) (mB (ret (.int 1))))))))))) (mB (mFz (mSlL (mVB 2) (mPart (mV 4)) mNoP))))) (mgN 2))
 mNext)
 mNext)
 (mSeq (mIfS (mTst (mOp dEq (mVB 3) (mB (ret (.int 5)))))
 (mSeq (mAsg (mFz (mOpN catL (mB (mFz (mOpN catL (mB (mFz (mSlL (mVB 2) mNoP (mPart (mV 4))))) (mB (mFz (mLst (mCons (mB (mOp dAdd (mB (mOp dIx (mVB 2) (mVB 4))) (mB (ret (.str " "))))) mNil))))))) (mB (mFz (mSlL (mVB 2) (mPart (mOp dAdd (mVB 4) (mB (ret (.int 1))))) mNoP))))) (mgN 2))
 mNext)
 mNext)
 (mSeq (mIfS (mTst (mOp dEq (mVB 3) (mB (ret (.int 6)))))
 (mSeq (mAsg (mFz (mOpN catL (mB (mFz (mOpN catL (mB (mFz (mSlL (mVB 2) mNoP (mPart (mV 4))))) (mB (mFz (mLst (mCons (mB (mOp dAdd (mB (ret (.str "0"))) (mB (mOp dIx (mVB 2) (mVB 4))))) mNil))))))) (mB (mFz (mSlL (mVB 2) (mPart (mOp dAdd (mVB 4) (mB (ret (.int 1))))) mNoP))))) (mgN 2))
 mNext)
 mNext)
 (mSeq (mIfS (mAnd (mTst (mOp dEq (mVB 3) (mB (ret (.int 7))))) (mTst (mOp dNe (mVB 1) (mB (ret (.str ""))))))
 (mSeq (mAsg (mRE (mCall m__law_take (mCons (mVB 0) (mCons (mB (mC1 dLen (mVB 1))) mNil)))) (mgN 5))
 (mSeq (mRet (mOp dAdd (mB (mOp dAdd (mB (mSl (mVB 1) mNoP (mPart (mV 5)))) (mB (mRE (mCall m__law_some (mCons (mVB 0) (mCons (mB (mFz (mLst (mCons (mB (ret (.str "0"))) (mCons (mB (ret (.str "1"))) (mCons (mB (ret (.str " "))) (mCons (mB (ret (.str "a"))) (mCons (mB (ret (.str "\n"))) mNil)))))))) mNil))))))) (mB (mSl (mVB 1) (mPart (mOp dAdd (mVB 5) (mB (ret (.int 1))))) mNoP))))
 mNext))
 mNext)
 (mSeq (mRet (mOp dAdd (mB (mS1 dJoin (ret (.str "\n")) (mVB 2))) (mB (mRE (mCall m__law_some (mCons (mVB 0) (mCons (mB (mFz (mLst (mCons (mB (ret (.str ""))) (mCons (mB (ret (.str "\n"))) (mCons (mB (ret (.str "0 66 a\n"))) mNil)))))) mNil)))))))
 mNext)))))))))
noncomputable def m__law_bent_text : Fnm := fnOf 6 b__law_bent_text

abbrev s__law_bent_text : Stmt := top 21
theorem sc__law_bent_text : FnScope ["bag", "text", "lines", "way", "at", "place"] ["bag", "text"] (defScope s__law_bent_text) := ⟨rfl, rfl, rfl, by decide +kernel, rfl, by decide +kernel, by decide +kernel⟩
theorem nd__law_bent_text : (["bag", "text", "lines", "way", "at", "place"] : List Str).Nodup := by decide +kernel
theorem cal__law_bent_text {f : Addr} {fd : FuncData} (T : Nms mg) (F : Fun K "_law_bent_text" "_law_bent_text" s__law_bent_text f fd) (hm : mg "_law_bent_text" = some (.ref f)) (hb : Binds K fd ["bag", "text"] []) (C__law_some : Cal P w K mg base "_law_some" 2 2 m__law_some) (C__law_take : Cal P w K mg base "_law_take" 1 2 m__law_take) : Cal P w K mg base "_law_bent_text" 3 2 m__law_bent_text :=
  cal_of F sc__law_bent_text hm hb rfl rfl fun cdv A outer s H E hr => have hN := nd__law_bent_text; ⟨_, (dss_cons (ds_set 2 hN (DN.fz (dn_split (de_var 1) de_str)))
 (dss_cons (ds_par2 3 4 rfl hN (dx_val (DR.de (dr_call C__law_take (hr.mono (by decide)) (da_cons (db_var 0) (da_cons (DE.b de_int) da_nil)))) (dx_val (DR.de (dr_call C__law_take (hr.mono (by decide)) (da_cons (db_var 0) (da_cons (DE.b (de_len (K := K) T.len (db_var 2))) da_nil)))) dx_nil)) (hw := by rfl))
 (dss_cons (ds_if (dt_lt (db_var 3) (DE.b de_int))
 (dss_cons (ds_ret (de_add (K := K) (DE.b (de_sl (K := K) (db_var 1) dp_none (dp_some (DR.de (dr_call C__law_take (hr.mono (by decide)) (da_cons (db_var 0) (da_cons (DE.b (de_add (K := K) (DE.b (de_len (K := K) T.len (db_var 1))) (DE.b de_int))) da_nil))))))) (DE.b (DR.de (dr_call C__law_some (hr.mono (by decide)) (da_cons (db_var 0) (da_cons (DE.b (DN.fz (dn_lst (da_cons (DE.b de_str) (da_cons (DE.b de_str) (da_cons (DE.b de_str) (da_cons (DE.b de_str) da_nil))))))) da_nil)))))))
 dss_nil)
 dss_nil)
 (dss_cons (ds_if (dt_eq (K := K) hr.room (db_var 3) (DE.b de_int))
 (dss_cons (ds_set 2 hN (DN.fz (dn_cat (DE.b (DN.fz (dn_sl (K := K) (db_var 2) dp_none (dp_some (de_var 4))))) (DE.b (DN.fz (dn_sl (K := K) (db_var 2) (dp_some (de_add (K := K) (db_var 4) (DE.b de_int))) dp_none))))))
 dss_nil)
 dss_nil)
 (dss_cons (ds_if (dt_eq (K := K) hr.room (db_var 3) (DE.b de_int))
 (dss_cons (ds_set 2 hN (DN.fz (dn_cat (DE.b (DN.fz (dn_cat (DE.b (DN.fz (dn_sl (K := K) (db_var 2) dp_none (dp_some (de_var 4))))) (DE.b (DN.fz (dn_sl (K := K) (db_var 2) (dp_some (de_var 4)) (dp_some (de_add (K := K) (db_var 4) (DE.b de_int))))))))) (DE.b (DN.fz (dn_sl (K := K) (db_var 2) (dp_some (de_var 4)) dp_none))))))
 dss_nil)
 dss_nil)
 (dss_cons (ds_if (dt_eq (K := K) hr.room (db_var 3) (DE.b de_int))
 (dss_cons (ds_set 2 hN (DN.fz (dn_cat (DE.b (DN.fz (dn_cat (DE.b (DN.fz (dn_sl (K := K) (db_var 2) dp_none (dp_some (de_var 4))))) (DE.b (DN.fz (dn_lst (da_cons (DE.b (de_add (K := K) (DE.b (de_ix (K := K) (db_var 2) (db_var 4))) (DE.b de_str))) da_nil))))))) (DE.b (DN.fz (dn_sl (K := K) (db_var 2) (dp_some (de_add (K := K) (db_var 4) (DE.b de_int))) dp_none))))))
 dss_nil)
 dss_nil)
 (dss_cons (ds_if (dt_eq (K := K) hr.room (db_var 3) (DE.b de_int))
 (dss_cons (ds_set 2 hN (DN.fz (dn_cat (DE.b (DN.fz (dn_cat (DE.b (DN.fz (dn_sl (K := K) (db_var 2) dp_none (dp_some (de_var 4))))) (DE.b (DN.fz (dn_lst (da_cons (DE.b (de_add (K := K) (DE.b de_str) (DE.b (de_ix (K := K) (db_var 2) (db_var 4))))) da_nil))))))) (DE.b (DN.fz (dn_sl (K := K) (db_var 2) (dp_some (de_add (K := K) (db_var 4) (DE.b de_int))) dp_none))))))
 dss_nil)
 dss_nil)
 (dss_cons (ds_if (DW.t (dw_and (dt_eq (K := K) hr.room (db_var 3) (DE.b de_int)) (dw_and1 (dt_ne (K := K) hr.room (db_var 1) (DE.b de_str)))))
 (dss_cons (ds_set 5 hN (DR.de (dr_call C__law_take (hr.mono (by decide)) (da_cons (db_var 0) (da_cons (DE.b (de_len (K := K) T.len (db_var 1))) da_nil)))))
 (dss_cons (ds_ret (de_add (K := K) (DE.b (de_add (K := K) (DE.b (de_sl (K := K) (db_var 1) dp_none (dp_some (de_var 5)))) (DE.b (DR.de (dr_call C__law_some (hr.mono (by decide)) (da_cons (db_var 0) (da_cons (DE.b (DN.fz (dn_lst (da_cons (DE.b de_str) (da_cons (DE.b de_str) (da_cons (DE.b de_str) (da_cons (DE.b de_str) (da_cons (DE.b de_str) da_nil)))))))) da_nil))))))) (DE.b (de_sl (K := K) (db_var 1) (dp_some (de_add (K := K) (db_var 5) (DE.b de_int))) dp_none))))
 dss_nil))
 dss_nil)
 (dss_cons (ds_ret (de_add (K := K) (DE.b (de_join (K := K) de_str (db_var 2))) (DE.b (DR.de (dr_call C__law_some (hr.mono (by decide)) (da_cons (db_var 0) (da_cons (DE.b (DN.fz (dn_lst (da_cons (DE.b de_str) (da_cons (DE.b de_str) (da_cons (DE.b de_str) da_nil)))))) da_nil)))))))
 dss_nil)))))))))⟩

noncomputable def el__law_is_record_1 : MA := (mLeaf (mNot (mTst (mChain dLeS dLeS (ret (.str " ")) (mV 1) (ret (.str "~"))))) (mV 1))
noncomputable def b__law_is_record : MS := (mSeq (mRet (mAndV (mOp dNe (mVB 0) (mB (ret (.str "")))) (mOp dEq (mB (mFz (mLc (mSigns (mV 0)) [1] (mgN 1) el__law_is_record_1))) (mB (mFz (mLst mNil))))))
 mNext)
noncomputable def m__law_is_record : Fnm := fnOf 2 b__law_is_record

abbrev s__law_is_record : Stmt := top 22
theorem sc__law_is_record : FnScope ["line", "sign"] ["line"] (defScope s__law_is_record) := ⟨rfl, rfl, rfl, by decide +kernel, rfl, by decide +kernel, by decide +kernel⟩
theorem nd__law_is_record : (["line", "sign"] : List Str).Nodup := by decide +kernel
theorem cal__law_is_record {f : Addr} {fd : FuncData} (T : Nms mg) (F : Fun K "_law_is_record" "_law_is_record" s__law_is_record f fd) (hm : mg "_law_is_record" = some (.ref f)) (hb : Binds K fd ["line"] [])  : Cal P w K mg base "_law_is_record" 1 1 m__law_is_record :=
  cal_of F sc__law_is_record hm hb rfl rfl fun cdv A outer s H E hr => have hN := nd__law_is_record; ⟨_, (dss_cons (ds_ret (de_and (de_ne (K := K) hr.room (db_var 0) (DE.b de_str)) (de_one (de_eq (K := K) hr.room (DE.b (DN.fz (dn_lc rfl hN (own := [("sign", 1)]) (di_str (de_var 0)) (by kernel_rfl) (fun _ _ _ _ _ => (dg_name 1 hN)) (fun _ _ _ _ _ => (dts_one (dt_not (dt_leles de_str (de_var 1) de_str)))) (fun _ _ _ _ _ => (de_var 1))))) (DE.b (DN.fz (dn_lst da_nil)))))))
 dss_nil)⟩

noncomputable def lb__law_opened_1 : MS := (mSeq (mAsg (mFz (mS1N dSplit (mV 3) (ret (.str " ")))) (mgN 4))
 (mSeq (mAsg (mIf (mTst (mOp dGt (mB (mC1 dLen (mVB 4))) (mB (ret (.int 2))))) (mSl (mVB 3) (mPart (mOp dAdd (mB (mOp dAdd (mB (mC1 dLen (mB (mOp dIx (mVB 4) (mB (ret (.int 0))))))) (mB (mC1 dLen (mB (mOp dIx (mVB 4) (mB (ret (.int 1))))))))) (mB (ret (.int 2))))) mNoP) (ret (.str ""))) (mgN 5))
 (mSeq (mIfS (mOr (mNot (mTst (mRE (mCall m__law_is_record (mCons (mVB 5) mNil))))) (mNot (mTst (mS1 dStarts (mV 0) (mB (mRE (mCall m__law_journal (mCons (mB (mFz (mOpN catL (mVB 2) (mB (mFz (mLst (mCons (mVB 5) mNil))))))) mNil))))))))
 (mSeq (mRet (mC1 dTuple (mVB 2)))
 mNext)
 mNext)
 (mSeq (mDrop (mMtE 2 fApp (mV 5)))
 mNext))))
noncomputable def b__law_opened : MS := (mSeq (mPar [1, 2] [(mXe (mFz (mSlL (mB (mFz (mS1N dSplit (mV 0) (ret (.str "\n"))))) mNoP (mPart (mNeg (ret (.int 1))))))), (mLst mNil)])
 (mSeq (mFor (mSeq1 (mVB 1)) (mgN 3) lb__law_opened_1)
 (mSeq (mRet (mC1 dTuple (mVB 2)))
 mNext)))
noncomputable def m__law_opened : Fnm := fnOf 6 b__law_opened

abbrev s__law_opened : Stmt := top 23
theorem sc__law_opened : FnScope ["text", "lines", "found", "line", "words", "record"] ["text"] (defScope s__law_opened) := ⟨rfl, rfl, rfl, by decide +kernel, rfl, by decide +kernel, by decide +kernel⟩
theorem nd__law_opened : (["text", "lines", "found", "line", "words", "record"] : List Str).Nodup := by decide +kernel
theorem cal__law_opened {f : Addr} {fd : FuncData} (T : Nms mg) (F : Fun K "_law_opened" "_law_opened" s__law_opened f fd) (hm : mg "_law_opened" = some (.ref f)) (hb : Binds K fd ["text"] []) (C__law_is_record : Cal P w K mg base "_law_is_record" 1 1 m__law_is_record) (C__law_journal : Cal P w K mg base "_law_journal" 2 1 m__law_journal) : Cal P w K mg base "_law_opened" 3 1 m__law_opened :=
  cal_of F sc__law_opened hm hb rfl rfl fun cdv A outer s H E hr => have hN := nd__law_opened; ⟨_, (dss_cons (ds_par2 1 2 rfl hN (dx_val (DN.fz (dn_sl (K := K) (DE.b (DN.fz (dn_split (de_var 0) de_str))) dp_none (dp_some (de_neg de_int)))) (dx_new (dn_lst da_nil) dx_nil)) (hw := by rfl))
 (dss_cons (ds_for (di_seq (K := K) (db_var 1)) (dg_name 3 hN)
 (dss_cons (ds_set 4 hN (DN.fz (dn_split (de_var 3) de_str)))
 (dss_cons (ds_set 5 hN (de_if (dt_gt (DE.b (de_len (K := K) T.len (db_var 4))) (DE.b de_int)) (de_sl (K := K) (db_var 3) (dp_some (de_add (K := K) (DE.b (de_add (K := K) (DE.b (de_len (K := K) T.len (DE.b (de_ix (K := K) (db_var 4) (DE.b de_int))))) (DE.b (de_len (K := K) T.len (DE.b (de_ix (K := K) (db_var 4) (DE.b de_int))))))) (DE.b de_int))) dp_none) de_str))
 (dss_cons (ds_if (DW.t (dw_or (dt_not (dt_val (DR.de (dr_call C__law_is_record (hr.mono (by decide)) (da_cons (db_var 5) da_nil))))) (dw_or1 (dt_not (dt_val (de_startswith (de_var 0) (DE.b (DR.de (dr_call C__law_journal (hr.mono (by decide)) (da_cons (DE.b (DN.fz (dn_cat (db_var 2) (DE.b (DN.fz (dn_lst (da_cons (db_var 5) da_nil))))))) da_nil))))))))))
 (dss_cons (ds_ret (de_tuple (K := K) T.tuple (db_var 2)))
 dss_nil)
 dss_nil)
 (dss_cons (ds_expr (de_append 2 (de_var 5)))
 dss_nil)))))
 (dss_cons (ds_ret (de_tuple (K := K) T.tuple (db_var 2)))
 dss_nil)))⟩

abbrev s_law : Stmt := top 25
theorem sc_law : FnScope ["script", "bag", "turn", "records", "text", "shown", "told", "ahead", "record", "again", "some", "due", "at", "odd", "bad", "heard"] ["script"] (defScope s_law) := ⟨rfl, rfl, rfl, by decide +kernel, rfl, by decide +kernel, by decide +kernel⟩
theorem nd_law : (["script", "bag", "turn", "records", "text", "shown", "told", "ahead", "record", "again", "some", "due", "at", "odd", "bad", "heard"] : List Str).Nodup := by decide +kernel

noncomputable def el_law_p1_1 : MA := (mLeaf mYes (mRE (mCall m__law_take (mCons (mVB 1) (mCons (mB (mOp dAdd (mB (mC1 dLen (mVB 4))) (mB (ret (.int 1))))) mNil)))))
noncomputable def el_law_p1_2 : MA := (mLeaf mYes (mRE (mCall m__law_take (mCons (mVB 1) (mCons (mB (mOp dAdd (mB (mC1 dLen (mVB 4))) (mB (ret (.int 1))))) mNil)))))
noncomputable def lb_law_p1_3 : MS := (mSeq (mIfS (mNot (mTst (mRE (mCall m__law_alike (mCons (mB (mRE (mCall m_opened (mCons (mB (mSl (mVB 4) mNoP (mPart (mV 12)))) mNil)))) (mCons (mB (mC1 dTuple (mB (mFz (mSlL (mVB 3) mNoP (mPart (mOp dSub (mB (mC1 dLen (mB (mFz (mS1N dSplit (mSl (mVB 4) mNoP (mPart (mV 12))) (ret (.str "\n"))))))) (mB (ret (.int 1)))))))))) mNil))))))
 (mSeq (mRet (ret (.bool false)))
 mNext)
 mNext)
 mNext)
noncomputable def lb_law_p1_4 : MS := (mSeq (mAsg (mRE (mCall m__law_bent_text (mCons (mVB 1) (mCons (mVB 4) mNil)))) (mgN 10))
 (mSeq (mAsg (mIf (mTst (mOp dGt (mVB 9) (mB (ret (.int 3))))) (mRE (mCall m__law_bent_text (mCons (mVB 1) (mCons (mVB 10) mNil)))) (mV 10)) (mgN 10))
 (mSeq (mAsg (mRE (mCall m__law_opened (mCons (mVB 10) mNil))) (mgN 11))
 (mSeq (mIfS (mNot (mTst (mRE (mCall m__law_alike (mCons (mB (mFz (mLst (mCons (mB (mRE (mCall m_opened (mCons (mVB 10) mNil)))) (mCons (mB (mRE (mCall m_with_record (mCons (mVB 10) (mCons (mVB 8) mNil))))) mNil))))) (mCons (mB (mFz (mLst (mCons (mVB 11) (mCons (mB (mRE (mCall m__law_journal (mCons (mB (mFz (mOpN catL (mB (mFz (mC1N dList (mVB 11)))) (mB (mFz (mLst (mCons (mVB 8) mNil))))))) mNil)))) mNil))))) mNil))))))
 (mSeq (mRet (ret (.bool false)))
 mNext)
 mNext)
 mNext))))
noncomputable def el_law_p1_5 : MA := (mLeaf mYes (mRE (mCall m__law_record (mCons (mVB 1) mNil))))
noncomputable def lb_law_p1_6 : MS := (mSeq (mAsg (mFz (mLc (mRng1 (mRE (mCall m__law_some (mCons (mVB 1) (mCons (mB (mFz (mLst (mCons (mB (ret (.int 0))) (mCons (mB (ret (.int 1))) (mCons (mB (ret (.int 3))) (mCons (mB (ret (.int 12))) (mCons (mB (ret (.int 5))) mNil)))))))) mNil))))) [9] (mgN 9) el_law_p1_5)) (mgN 3))
 (mSeq (mAsg (mTup (mCons (mB (mRE (mCall m__law_journal (mCons (mVB 3) mNil)))) (mCons (mB (mC1 dRepr (mVB 3))) mNil))) (mgT [(mgN 4), (mgN 5)]))
 (mSeq (mAsg (mFz (mLst (mCons (mB (mRE (mCall m_journal_of (mCons (mVB 3) mNil)))) (mCons (mB (mRE (mCall m_journal_of (mCons (mB (mC1 dTuple (mVB 3))) mNil)))) (mCons (mB (mRE (mCall m_opened (mCons (mVB 4) mNil)))) mNil))))) (mgN 6))
 (mSeq (mIfS (mOr (mNot (mTst (mRE (mCall m__law_alike (mCons (mVB 6) (mCons (mB (mFz (mLst (mCons (mVB 4) (mCons (mVB 4) (mCons (mB (mC1 dTuple (mVB 3))) mNil)))))) mNil)))))) (mTst (mOp dNe (mB (mC1 dRepr (mVB 3))) (mVB 5))))
 (mSeq (mRet (ret (.bool false)))
 mNext)
 mNext)
 (mSeq (mPar [7, 8] [(mXe (mRE (mCall m__law_take (mCons (mVB 1) (mCons (mB (ret (.int 1000000007))) mNil))))), (mXe (mRE (mCall m__law_record (mCons (mVB 1) mNil))))])
 (mSeq (mIfS (mNot (mTst (mRE (mCall m__law_alike (mCons (mB (mFz (mLst (mCons (mB (mRE (mCall m_sum_behind (mCons (mVB 7) (mCons (mVB 8) mNil))))) (mCons (mB (mRE (mCall m_sum_behind (mCons (mB (ret (.int 0))) (mCons (mVB 8) mNil))))) mNil))))) (mCons (mB (mFz (mLst (mCons (mB (mRE (mCall m__law_sum_behind (mCons (mVB 7) (mCons (mVB 8) mNil))))) (mCons (mB (mRE (mCall m__law_sum_behind (mCons (mB (ret (.int 0))) (mCons (mVB 8) mNil))))) mNil))))) mNil))))))
 (mSeq (mRet (ret (.bool false)))
 mNext)
 mNext)
 (mSeq (mFor (mRng1 (ret (.int 6))) (mgN 9) lb_law_p1_4)
 (mSeq (mFor (mSeq1 (mB (mFz (mC1N dSortI (mB (mFz (mLc (mRng1 (ret (.int 5))) [9] (mgN 9) el_law_p1_2))))))) (mgN 12) lb_law_p1_3)
 mNext))))))))
noncomputable def mp_law_1 : MS := (mFor (mRng1 (ret (.int 3))) (mgN 2) lb_law_p1_6)
theorem dp_law_1 {f : Addr} {E : XK} {LV : Nat} (hlv : 4 ≤ LV) (T : Nms mg) (C__law_take : Cal P w K mg base "_law_take" 1 2 m__law_take) (C__law_alike : Cal P w K mg base "_law_alike" 1 2 m__law_alike) (C_opened : Cal P w K mg base "opened" 3 1 m_opened) (C__law_journal : Cal P w K mg base "_law_journal" 2 1 m__law_journal) (C_with_record : Cal P w K mg base "with_record" 4 2 m_with_record) (C__law_opened : Cal P w K mg base "_law_opened" 3 1 m__law_opened) (C__law_bent_text : Cal P w K mg base "_law_bent_text" 3 2 m__law_bent_text) (C__law_sum_behind : Cal P w K mg base "_law_sum_behind" 1 2 m__law_sum_behind) (C_sum_behind : Cal P w K mg base "sum_behind" 1 2 m_sum_behind) (C__law_record : Cal P w K mg base "_law_record" 3 1 m__law_record) (C_journal_of : Cal P w K mg base "journal_of" 2 1 m_journal_of) (C__law_some : Cal P w K mg base "_law_some" 2 2 m__law_some) (cdv : Value) (A : Around) (outer : List Env) (s : Shared) (H : Hp) (hr0 : Rm LV (A.deeper (PyProof.Rows.envOfC "law" (defScope s_law) s.heap.objs.size f cdv))) : ∃ t, DS (cxOf CX0 P w K mg base ["script", "bag", "turn", "records", "text", "shown", "told", "ahead", "record", "again", "some", "due", "at", "odd", "bad", "heard"] "law" (defScope s_law) f cdv A outer s H E).nox ((defBody s_law).getD 1 (.Pass ⟨0, 0, 0, 0⟩)) t mp_law_1 :=
  have hr := hr0.mono hlv; have hN := nd_law; ⟨_, (ds_for (di_rng1 T.range de_int) (dg_name 2 hN)
 (dss_cons (ds_setLcF 3 rfl hN (own := [("again", 9)]) (di_rng1 T.range (DR.de (dr_call C__law_some (hr.mono (by decide)) (da_cons (db_var 1) (da_cons (DE.b (DN.fz (dn_lst (da_cons (DE.b de_int) (da_cons (DE.b de_int) (da_cons (DE.b de_int) (da_cons (DE.b de_int) (da_cons (DE.b de_int) da_nil)))))))) da_nil))))) (by kernel_rfl) (fun _ _ _ _ _ => (dg_name 9 hN)) (fun _ _ _ _ _ => dts_nil) (fun _ _ _ _ _ => (DR.de (dr_call C__law_record (hr.mono (by decide)) (da_cons (db_var 1) da_nil)))))
 (dss_cons (ds_asg (de_tup (da_cons (DE.b (DR.de (dr_call C__law_journal (hr.mono (by decide)) (da_cons (db_var 3) da_nil)))) (da_cons (DE.b (de_repr (K := K) hr T.repr (db_var 3))) da_nil))) (dg_tup (dgs_cons (dg_name 4 hN) (dgs_cons (dg_name 5 hN) dgs_nil noPin_name) noPin_name)))
 (dss_cons (ds_set 6 hN (DN.fz (dn_lst (da_cons (DE.b (DR.de (dr_call C_journal_of (hr.mono (by decide)) (da_cons (db_var 3) da_nil)))) (da_cons (DE.b (DR.de (dr_call C_journal_of (hr.mono (by decide)) (da_cons (DE.b (de_tuple (K := K) T.tuple (db_var 3))) da_nil)))) (da_cons (DE.b (DR.de (dr_call C_opened (hr.mono (by decide)) (da_cons (db_var 4) da_nil)))) da_nil))))))
 (dss_cons (ds_if (DW.t (dw_or (dt_not (dt_val (DR.de (dr_call C__law_alike (hr.mono (by decide)) (da_cons (db_var 6) (da_cons (DE.b (DN.fz (dn_lst (da_cons (db_var 4) (da_cons (db_var 4) (da_cons (DE.b (de_tuple (K := K) T.tuple (db_var 3))) da_nil)))))) da_nil)))))) (dw_or1 (dt_ne (K := K) hr.room (DE.b (de_repr (K := K) hr T.repr (db_var 3))) (db_var 5)))))
 (dss_cons (ds_ret de_bl)
 dss_nil)
 dss_nil)
 (dss_cons (ds_par2 7 8 rfl hN (dx_val (DR.de (dr_call C__law_take (hr.mono (by decide)) (da_cons (db_var 1) (da_cons (DE.b de_int) da_nil)))) (dx_val (DR.de (dr_call C__law_record (hr.mono (by decide)) (da_cons (db_var 1) da_nil))) dx_nil)) (hw := by rfl))
 (dss_cons (ds_if (dt_not (dt_val (DR.de (dr_call C__law_alike (hr.mono (by decide)) (da_cons (DE.b (DN.fz (dn_lst (da_cons (DE.b (DR.de (dr_call C_sum_behind (hr.mono (by decide)) (da_cons (db_var 7) (da_cons (db_var 8) da_nil))))) (da_cons (DE.b (DR.de (dr_call C_sum_behind (hr.mono (by decide)) (da_cons (DE.b de_int) (da_cons (db_var 8) da_nil))))) da_nil))))) (da_cons (DE.b (DN.fz (dn_lst (da_cons (DE.b (DR.de (dr_call C__law_sum_behind (hr.mono (by decide)) (da_cons (db_var 7) (da_cons (db_var 8) da_nil))))) (da_cons (DE.b (DR.de (dr_call C__law_sum_behind (hr.mono (by decide)) (da_cons (DE.b de_int) (da_cons (db_var 8) da_nil))))) da_nil))))) da_nil))))))
 (dss_cons (ds_ret de_bl)
 dss_nil)
 dss_nil)
 (dss_cons (ds_for (di_rng1 T.range de_int) (dg_name 9 hN)
 (dss_cons (ds_set 10 hN (DR.de (dr_call C__law_bent_text (hr.mono (by decide)) (da_cons (db_var 1) (da_cons (db_var 4) da_nil)))))
 (dss_cons (ds_set 10 hN (de_if (dt_gt (db_var 9) (DE.b de_int)) (DR.de (dr_call C__law_bent_text (hr.mono (by decide)) (da_cons (db_var 1) (da_cons (db_var 10) da_nil)))) (de_var 10)))
 (dss_cons (ds_set 11 hN (DR.de (dr_call C__law_opened (hr.mono (by decide)) (da_cons (db_var 10) da_nil))))
 (dss_cons (ds_if (dt_not (dt_val (DR.de (dr_call C__law_alike (hr.mono (by decide)) (da_cons (DE.b (DN.fz (dn_lst (da_cons (DE.b (DR.de (dr_call C_opened (hr.mono (by decide)) (da_cons (db_var 10) da_nil)))) (da_cons (DE.b (DR.de (dr_call C_with_record (hr.mono (by decide)) (da_cons (db_var 10) (da_cons (db_var 8) da_nil))))) da_nil))))) (da_cons (DE.b (DN.fz (dn_lst (da_cons (db_var 11) (da_cons (DE.b (DR.de (dr_call C__law_journal (hr.mono (by decide)) (da_cons (DE.b (DN.fz (dn_cat (DE.b (DN.fz (dn_list (K := K) T.list (db_var 11)))) (DE.b (DN.fz (dn_lst (da_cons (db_var 8) da_nil))))))) da_nil)))) da_nil))))) da_nil))))))
 (dss_cons (ds_ret de_bl)
 dss_nil)
 dss_nil)
 dss_nil)))))
 (dss_cons (ds_for (di_seq (K := K) (DE.b (DN.fz (dn_sortI (K := K) T.sorted (DE.b (DN.fz (dn_lc rfl hN (own := [("again", 9)]) (di_rng1 T.range de_int) (by kernel_rfl) (fun _ _ _ _ _ => (dg_name 9 hN)) (fun _ _ _ _ _ => dts_nil) (fun _ _ _ _ _ => (DR.de (dr_call C__law_take (hr.mono (by decide)) (da_cons (db_var 1) (da_cons (DE.b (de_add (K := K) (DE.b (de_len (K := K) T.len (db_var 4))) (DE.b de_int))) da_nil)))))))))))) (dg_name 12 hN)
 (dss_cons (ds_if (dt_not (dt_val (DR.de (dr_call C__law_alike (hr.mono (by decide)) (da_cons (DE.b (DR.de (dr_call C_opened (hr.mono (by decide)) (da_cons (DE.b (de_sl (K := K) (db_var 4) dp_none (dp_some (de_var 12)))) da_nil)))) (da_cons (DE.b (de_tuple (K := K) T.tuple (DE.b (DN.fz (dn_sl (K := K) (db_var 3) dp_none (dp_some (de_sub (DE.b (de_len (K := K) T.len (DE.b (DN.fz (dn_split (de_sl (K := K) (db_var 4) dp_none (dp_some (de_var 12))) de_str))))) (DE.b de_int)))))))) da_nil))))))
 (dss_cons (ds_ret de_bl)
 dss_nil)
 dss_nil)
 dss_nil))
 dss_nil)))))))))⟩
noncomputable def mp_law_2 : MS := (mAsg (mRE (mCall m__law_some (mCons (mVB 1) (mCons (mB (mFz (mLst (mCons (mB (ret .none)) (mCons (mB (ret (.int 5))) (mCons (mB (ret (.bool true))) (mCons (mB (mFz (mLst (mCons (mB (ret (.str "a"))) mNil)))) (mCons (mB (mTup (mCons (mB (ret (.str "a"))) mNil))) (mCons (mB (mFz (mDic0 false))) mNil))))))))) mNil)))) (mgN 13))
theorem dp_law_2 {f : Addr} {E : XK} {LV : Nat} (hlv : 4 ≤ LV) (T : Nms mg) (C__law_some : Cal P w K mg base "_law_some" 2 2 m__law_some) (cdv : Value) (A : Around) (outer : List Env) (s : Shared) (H : Hp) (hr0 : Rm LV (A.deeper (PyProof.Rows.envOfC "law" (defScope s_law) s.heap.objs.size f cdv))) : ∃ t, DS (cxOf CX0 P w K mg base ["script", "bag", "turn", "records", "text", "shown", "told", "ahead", "record", "again", "some", "due", "at", "odd", "bad", "heard"] "law" (defScope s_law) f cdv A outer s H E).nox ((defBody s_law).getD 2 (.Pass ⟨0, 0, 0, 0⟩)) t mp_law_2 :=
  have hr := hr0.mono hlv; have hN := nd_law; ⟨_, (ds_set 13 hN (DR.de (dr_call C__law_some (hr.mono (by decide)) (da_cons (db_var 1) (da_cons (DE.b (DN.fz (dn_lst (da_cons (DE.b de_non) (da_cons (DE.b de_int) (da_cons (DE.b de_bl) (da_cons (DE.b (DN.fz (dn_lst (da_cons (DE.b de_str) da_nil)))) (da_cons (DE.b (de_tup (da_cons (DE.b de_str) da_nil))) (da_cons (DE.b (DN.fz dn_dic0K)) da_nil))))))))) da_nil)))))⟩
noncomputable def mp_law_3 : MS := (mAsg (mRE (mCall m__law_some (mCons (mVB 1) (mCons (mB (mFz (mLst (mCons (mB (ret .none)) (mCons (mB (ret (.str ""))) (mCons (mB (ret (.str "a\nb"))) (mCons (mB (ret (.int 5))) (mCons (mB (mFz (mLst (mCons (mB (ret (.str "a"))) mNil)))) (mCons (mB (ret (.bool true))) mNil))))))))) mNil)))) (mgN 14))
theorem dp_law_3 {f : Addr} {E : XK} {LV : Nat} (hlv : 4 ≤ LV) (T : Nms mg) (C__law_some : Cal P w K mg base "_law_some" 2 2 m__law_some) (cdv : Value) (A : Around) (outer : List Env) (s : Shared) (H : Hp) (hr0 : Rm LV (A.deeper (PyProof.Rows.envOfC "law" (defScope s_law) s.heap.objs.size f cdv))) : ∃ t, DS (cxOf CX0 P w K mg base ["script", "bag", "turn", "records", "text", "shown", "told", "ahead", "record", "again", "some", "due", "at", "odd", "bad", "heard"] "law" (defScope s_law) f cdv A outer s H E).nox ((defBody s_law).getD 3 (.Pass ⟨0, 0, 0, 0⟩)) t mp_law_3 :=
  have hr := hr0.mono hlv; have hN := nd_law; ⟨_, (ds_set 14 hN (DR.de (dr_call C__law_some (hr.mono (by decide)) (da_cons (db_var 1) (da_cons (DE.b (DN.fz (dn_lst (da_cons (DE.b de_non) (da_cons (DE.b de_str) (da_cons (DE.b de_str) (da_cons (DE.b de_int) (da_cons (DE.b (DN.fz (dn_lst (da_cons (DE.b de_str) da_nil)))) (da_cons (DE.b de_bl) da_nil))))))))) da_nil)))))⟩
end
end W
end
section
set_option maxRecDepth 100000
set_option maxHeartbeats 4000000
namespace W2
open PySem L2 DL
def top (i : Nat) : Stmt := PySem.Challenge.pw_wellstrewn_k64_journals.main.body.getD i (.Pass ⟨0, 0, 0, 0⟩)
structure Nms (mg : Str → Option Value) : Prop where
  all : mg "all" = none
  isinstance : mg "isinstance" = none
  ord : mg "ord" = none
  str : mg "str" = none
  c_FIRST_SIGN : ∃ t, mg "FIRST_SIGN" = some (.int 32 t)
  c_LAST_SIGN : ∃ t, mg "LAST_SIGN" = some (.int 126 t)
section
variable {P : Program} {w : World} {K : PySem.W.Frag} {mg : Str → Option Value} {base : Heap}
noncomputable def el_is_record_1 : MA := (mLeaf mYes (mChain dLe dLe (ret (.int 32)) (mC1 dOrd (mVB 1)) (ret (.int 126))))
noncomputable def b_is_record : MS := (mSeq (mIfS (mOr (mNot (mTst (mIsT .str (mV 0)))) (mTst (mOp dEq (mVB 0) (mB (ret (.str ""))))))
 (mSeq (mRet (ret (.bool false)))
 mNext)
 mNext)
 (mSeq (mRet (mC1 dAll (mB (mFz (mLc (mSeq1 (mVB 0)) [1] (mgN 1) el_is_record_1)))))
 mNext))
noncomputable def m_is_record : Fnm := fnOf 2 b_is_record

abbrev s_is_record : Stmt := top 7
theorem sc_is_record : FnScope ["thing", "sign"] ["thing"] (defScope s_is_record) := ⟨rfl, rfl, rfl, by decide +kernel, rfl, by decide +kernel, by decide +kernel⟩
theorem nd_is_record : (["thing", "sign"] : List Str).Nodup := by decide +kernel
theorem fnK_is_record {f : Addr} {fd : FuncData} (T : Nms mg) (F : Fun K "is_record" "is_record" s_is_record f fd)  : FnOk P w K mg base CX0 1 f fd ["thing"] (spD 1 m_is_record) :=
  fnK_of F sc_is_record rfl rfl fun cdv A outer s H E hr => have hN := nd_is_record; ⟨_, (dss_cons (ds_if (DW.t (dw_or (dt_not (dt_val (de_isT (K := K) .str T.isinstance T.str (de_var 0)))) (dw_or1 (dt_eq (K := K) hr (db_var 0) (DE.b de_str)))))
 (dss_cons (ds_ret de_bl)
 dss_nil)
 dss_nil)
 (dss_cons (ds_ret (de_all (K := K) T.all (DE.b (DN.fz (dn_lc rfl hN (own := [("sign", 1)]) (di_seq (K := K) (db_var 0)) (by kernel_rfl) (fun _ _ _ _ _ => (dg_name 1 hN)) (fun _ _ _ _ _ => dts_nil) (fun _ _ _ _ _ => (de_lele (de_globI T.c_FIRST_SIGN) (de_ord T.ord (db_var 1)) (de_globI T.c_LAST_SIGN))))))))
 dss_nil))⟩
theorem calK_is_record {f : Addr} {fd : FuncData} (T : Nms mg) (F : Fun K "is_record" "is_record" s_is_record f fd) (hm : mg "is_record" = some (.ref f)) (hb : Binds K fd ["thing"] [])  : CalK P w K mg base "is_record" 1 1 m_is_record := ⟨f, fd, ["thing"], fnK_is_record T F , hm, F.kp, hb⟩

end
end W2
end
section
set_option maxRecDepth 100000
set_option maxHeartbeats 4000000
namespace W3
open PySem L2 DL
def top (i : Nat) : Stmt := PySem.Challenge.pw_wellstrewn_k64_journals.main.body.getD i (.Pass ⟨0, 0, 0, 0⟩)
structure Nms (mg : Str → Option Value) : Prop where
  all : mg "all" = none
  isinstance : mg "isinstance" = none
  len : mg "len" = none
  ord : mg "ord" = none
  str : mg "str" = none
  tuple : mg "tuple" = none
  c_LAST_SIGN : ∃ t, mg "LAST_SIGN" = some (.int 126 t)
  c_FIRST_SIGN : ∃ t, mg "FIRST_SIGN" = some (.int 32 t)
  c_MODULUS : ∃ t, mg "MODULUS" = some (.int 1000000007 t)
section
variable {P : Program} {w : World} {K : PySem.W.Frag} {mg : Str → Option Value} {base : Heap}
noncomputable def el_is_record_1 : MA := (mLeaf mYes (mChain dLe dLe (ret (.int 32)) (mC1 dOrd (mVB 1)) (ret (.int 126))))
noncomputable def b_is_record : MS := (mSeq (mIfS (mOr (mNot (mTst (mIsStr (mV 0)))) (mTst (mOp dEq (mVB 0) (mB (ret (.str ""))))))
 (mSeq (mRet (ret (.bool false)))
 mNext)
 mNext)
 (mSeq (mRet (mC1 dAll (mB (mFz (mLc (mSigns (mV 0)) [1] (mgN 1) el_is_record_1)))))
 mNext))
noncomputable def m_is_record : Fnm := fnOf 2 b_is_record

abbrev s_is_record : Stmt := top 7
theorem sc_is_record : FnScope ["thing", "sign"] ["thing"] (defScope s_is_record) := ⟨rfl, rfl, rfl, by decide +kernel, rfl, by decide +kernel, by decide +kernel⟩
theorem nd_is_record : (["thing", "sign"] : List Str).Nodup := by decide +kernel
theorem fnK_is_record {f : Addr} {fd : FuncData} (T : Nms mg) (F : Fun K "is_record" "is_record" s_is_record f fd)  : FnOk P w K mg base CX0 1 f fd ["thing"] (spD 1 m_is_record) :=
  fnK_of F sc_is_record rfl rfl fun cdv A outer s H E hr => have hN := nd_is_record; ⟨_, (dss_cons (ds_if (DW.t (dw_or (dt_not (dt_val (de_isStr (K := K) T.isinstance T.str (de_var 0)))) (dw_or1 (dt_eq (K := K) hr (db_var 0) (DE.b de_str)))))
 (dss_cons (ds_ret de_bl)
 dss_nil)
 dss_nil)
 (dss_cons (ds_ret (de_all (K := K) T.all (DE.b (DN.fz (dn_lc rfl hN (own := [("sign", 1)]) (di_str (de_var 0)) (by kernel_rfl) (fun _ _ _ _ _ => (dg_name 1 hN)) (fun _ _ _ _ _ => dts_nil) (fun _ _ _ _ _ => (de_lele (de_globI T.c_FIRST_SIGN) (de_ord T.ord (db_var 1)) (de_globI T.c_LAST_SIGN))))))))
 dss_nil))⟩
theorem calK_is_record {f : Addr} {fd : FuncData} (T : Nms mg) (F : Fun K "is_record" "is_record" s_is_record f fd) (hm : mg "is_record" = some (.ref f)) (hb : Binds K fd ["thing"] [])  : CalK P w K mg base "is_record" 1 1 m_is_record := ⟨f, fd, ["thing"], fnK_is_record T F , hm, F.kp, hb⟩

noncomputable def lb_sum_behind_1 : MS := (mSeq (mAsg (mOp dMod (mB (mOp dAdd (mB (mOp dSub (mB (mOp dAdd (mB (mOp dMul (mVB 0) (mB (ret (.int 97))))) (mB (mC1 dOrd (mVB 2))))) (mB (ret (.int 32))))) (mB (ret (.int 1))))) (mB (ret (.int 1000000007)))) (mgN 0))
 mNext)
noncomputable def b_sum_behind : MS := (mSeq (mFor (mSigns (mV 1)) (mgN 2) lb_sum_behind_1)
 (mSeq (mRet (mV 0))
 mNext))
noncomputable def m_sum_behind : Fnm := fnOf 3 b_sum_behind

abbrev s_sum_behind : Stmt := top 8
theorem sc_sum_behind : FnScope ["ahead", "record", "sign"] ["ahead", "record"] (defScope s_sum_behind) := ⟨rfl, rfl, rfl, by decide +kernel, rfl, by decide +kernel, by decide +kernel⟩
theorem nd_sum_behind : (["ahead", "record", "sign"] : List Str).Nodup := by decide +kernel
theorem fnK_sum_behind {f : Addr} {fd : FuncData} (T : Nms mg) (F : Fun K "sum_behind" "sum_behind" s_sum_behind f fd)  : FnOk P w K mg base CX0 1 f fd ["ahead", "record"] (spD 2 m_sum_behind) :=
  fnK_of F sc_sum_behind rfl rfl fun cdv A outer s H E hr => have hN := nd_sum_behind; ⟨_, (dss_cons (ds_for (di_str (de_var 1)) (dg_name 2 hN)
 (dss_cons (ds_set 0 hN (de_mod (DE.b (de_add (K := K) (DE.b (de_sub (DE.b (de_add (K := K) (DE.b (de_mul (db_var 0) (DE.b de_int))) (DE.b (de_ord T.ord (db_var 2))))) (DE.b (de_globI T.c_FIRST_SIGN)))) (DE.b de_int))) (DE.b (de_globI T.c_MODULUS))))
 dss_nil))
 (dss_cons (ds_ret (de_var 0))
 dss_nil))⟩
theorem calK_sum_behind {f : Addr} {fd : FuncData} (T : Nms mg) (F : Fun K "sum_behind" "sum_behind" s_sum_behind f fd) (hm : mg "sum_behind" = some (.ref f)) (hb : Binds K fd ["ahead", "record"] [])  : CalK P w K mg base "sum_behind" 1 2 m_sum_behind := ⟨f, fd, ["ahead", "record"], fnK_sum_behind T F , hm, F.kp, hb⟩

noncomputable def b_record_in : MS := (mSeq (mAsg (mFz (mS2N dSplit2 (mV 0) (ret (.str " ")) (ret (.int 2)))) (mgN 3))
 (mSeq (mIfS (mOr (mTst (mOp dLt (mB (mC1 dLen (mVB 3))) (mB (ret (.int 3))))) (mOr (mTst (mOp dNe (mB (mOp dIx (mVB 3) (mB (ret (.int 0))))) (mB (mC1 dStr (mVB 1))))) (mNot (mTst (mRE (mCall m_is_record (mCons (mB (mOp dIx (mVB 3) (mB (ret (.int 2))))) mNil)))))))
 (mSeq (mRet (ret .none))
 mNext)
 mNext)
 (mSeq (mRet (mIf (mTst (mOp dEq (mB (mOp dIx (mVB 3) (mB (ret (.int 1))))) (mB (mC1 dStr (mB (mRE (mCall m_sum_behind (mCons (mVB 2) (mCons (mB (mOp dIx (mVB 3) (mB (ret (.int 2))))) mNil))))))))) (mOp dIx (mVB 3) (mB (ret (.int 2)))) (ret .none)))
 mNext)))
noncomputable def m_record_in : Fnm := fnOf 4 b_record_in

abbrev s_record_in : Stmt := top 10
theorem sc_record_in : FnScope ["line", "index", "ahead", "words"] ["line", "index", "ahead"] (defScope s_record_in) := ⟨rfl, rfl, rfl, by decide +kernel, rfl, by decide +kernel, by decide +kernel⟩
theorem nd_record_in : (["line", "index", "ahead", "words"] : List Str).Nodup := by decide +kernel
theorem fnK_record_in {f : Addr} {fd : FuncData} (T : Nms mg) (F : Fun K "record_in" "record_in" s_record_in f fd) (C_sum_behind : CalK P w K mg base "sum_behind" 1 2 m_sum_behind) (C_is_record : CalK P w K mg base "is_record" 1 1 m_is_record) : FnOk P w K mg base CX0 2 f fd ["line", "index", "ahead"] (spD 3 m_record_in) :=
  fnK_of F sc_record_in rfl rfl fun cdv A outer s H E hr => have hN := nd_record_in; ⟨_, (dss_cons (ds_set 3 hN (DN.fz (dn_split2 (K := K) (de_var 0) de_str de_int)))
 (dss_cons (ds_if (DW.t (dw_or (dt_lt (DE.b (de_len (K := K) T.len (db_var 3))) (DE.b de_int)) (dw_or (dt_ne (K := K) hr (DE.b (de_ix (K := K) (db_var 3) (DE.b de_int))) (DE.b (de_strC T.str (db_var 1)))) (dw_or1 (dt_not (dt_val (DR.de (drK_call C_is_record (hr.mono (by decide)) (da_cons (DE.b (de_ix (K := K) (db_var 3) (DE.b de_int))) da_nil)))))))))
 (dss_cons (ds_ret de_non)
 dss_nil)
 dss_nil)
 (dss_cons (ds_ret (de_if (dt_eq (K := K) hr (DE.b (de_ix (K := K) (db_var 3) (DE.b de_int))) (DE.b (de_strC T.str (DE.b (DR.de (drK_call C_sum_behind (hr.mono (by decide)) (da_cons (db_var 2) (da_cons (DE.b (de_ix (K := K) (db_var 3) (DE.b de_int))) da_nil)))))))) (de_ix (K := K) (db_var 3) (DE.b de_int)) de_non))
 dss_nil)))⟩
theorem calK_record_in {f : Addr} {fd : FuncData} (T : Nms mg) (F : Fun K "record_in" "record_in" s_record_in f fd) (hm : mg "record_in" = some (.ref f)) (hb : Binds K fd ["line", "index", "ahead"] []) (C_sum_behind : CalK P w K mg base "sum_behind" 1 2 m_sum_behind) (C_is_record : CalK P w K mg base "is_record" 1 1 m_is_record) : CalK P w K mg base "record_in" 2 3 m_record_in := ⟨f, fd, ["line", "index", "ahead"], fnK_record_in T F C_sum_behind C_is_record, hm, F.kp, hb⟩

noncomputable def lb_opened_1 : MS := (mSeq (mAsg (mRE (mCall m_record_in (mCons (mVB 3) (mCons (mB (mC1 dLen (mVB 1))) (mCons (mVB 2) mNil))))) (mgN 4))
 (mSeq (mIfS (mTst (mIsN false (mV 4)))
 (mSeq (ret .bk)
 mNext)
 mNext)
 (mSeq (mDrop (mMtE 1 fApp (mV 4)))
 (mSeq (mAsg (mRE (mCall m_sum_behind (mCons (mVB 2) (mCons (mVB 4) mNil)))) (mgN 2))
 mNext))))
noncomputable def b_opened : MS := (mSeq (mIfS (mNot (mTst (mIsStr (mV 0))))
 (mSeq mNever
 mNext)
 mNext)
 (mSeq (mPar [1, 2] [(mLst mNil), (mXe (ret (.int 0)))])
 (mSeq (mFor (mSeq1 (mB (mFz (mSlL (mB (mFz (mS1N dSplit (mV 0) (ret (.str "\n"))))) mNoP (mPart (mNeg (ret (.int 1)))))))) (mgN 3) lb_opened_1)
 (mSeq (mRet (mC1 dTuple (mVB 1)))
 mNext))))
noncomputable def m_opened : Fnm := fnOf 5 b_opened

abbrev s_opened : Stmt := top 11
theorem sc_opened : FnScope ["text", "found", "ahead", "line", "record"] ["text"] (defScope s_opened) := ⟨rfl, rfl, rfl, by decide +kernel, rfl, by decide +kernel, by decide +kernel⟩
theorem nd_opened : (["text", "found", "ahead", "line", "record"] : List Str).Nodup := by decide +kernel
theorem fnK_opened {f : Addr} {fd : FuncData} (T : Nms mg) (F : Fun K "opened" "opened" s_opened f fd) (C_sum_behind : CalK P w K mg base "sum_behind" 1 2 m_sum_behind) (C_record_in : CalK P w K mg base "record_in" 2 3 m_record_in) : FnOk P w K mg base CX0 3 f fd ["text"] (spD 1 m_opened) :=
  fnK_of F sc_opened rfl rfl fun cdv A outer s H E hr => have hN := nd_opened; ⟨_, (dss_cons (ds_if (dt_not (dt_val (de_isStr (K := K) T.isinstance T.str (de_var 0))))
 (dss_cons ds_never
 dss_nil)
 dss_nil)
 (dss_cons (ds_par2 1 2 rfl hN (dx_new (dn_lst da_nil) (dx_val de_int dx_nil)) (hw := by rfl))
 (dss_cons (ds_for (di_seq (K := K) (DE.b (DN.fz (dn_sl (K := K) (DE.b (DN.fz (dn_split (de_var 0) de_str))) dp_none (dp_some (de_neg de_int)))))) (dg_name 3 hN)
 (dss_cons (ds_set 4 hN (DR.de (drK_call C_record_in (hr.mono (by decide)) (da_cons (db_var 3) (da_cons (DE.b (de_len (K := K) T.len (db_var 1))) (da_cons (db_var 2) da_nil))))))
 (dss_cons (ds_if (dt_isN (de_var 4))
 (dss_cons ds_break
 dss_nil)
 dss_nil)
 (dss_cons (ds_expr (de_append 1 (de_var 4)))
 (dss_cons (ds_set 2 hN (DR.de (drK_call C_sum_behind (hr.mono (by decide)) (da_cons (db_var 2) (da_cons (db_var 4) da_nil)))))
 dss_nil)))))
 (dss_cons (ds_ret (de_tuple (K := K) T.tuple (db_var 1)))
 dss_nil))))⟩
theorem calK_opened {f : Addr} {fd : FuncData} (T : Nms mg) (F : Fun K "opened" "opened" s_opened f fd) (hm : mg "opened" = some (.ref f)) (hb : Binds K fd ["text"] []) (C_sum_behind : CalK P w K mg base "sum_behind" 1 2 m_sum_behind) (C_record_in : CalK P w K mg base "record_in" 2 3 m_record_in) : CalK P w K mg base "opened" 3 1 m_opened := ⟨f, fd, ["text"], fnK_opened T F C_sum_behind C_record_in, hm, F.kp, hb⟩

end
end W3
end
section
set_option maxRecDepth 100000
set_option maxHeartbeats 200000
namespace W
open PySem L2 DL TL T64
def Bag (ds : List Dt) : Prop := ∃ (a b i : Int) (cs : List Dt), ds = [.int a, .int b, .int i, .list cs] ∧ cs.length ≤ 1000 ∧ ∀ c ∈ cs, ∃ n : Int, c = .int n
theorem cut_len {α : Type} (xs : List α) (lo hi : Option Int) : (cutL xs lo hi).length ≤ xs.length := by
  unfold cutL
  simp only [List.length_take, List.length_drop]
  omega
theorem cut_mem {α : Type} {xs : List α} {lo hi : Option Int} {x : α} (h : x ∈ cutL xs lo hi) : x ∈ xs := List.mem_of_mem_drop (List.mem_of_mem_take h)
theorem head_of {cs : List Dt} (hc : ∀ c ∈ cs, ∃ n : Int, c = .int n) (lo hi : Option Int) : ∃ (n : Int) (r : List Dt), cutL cs lo hi ++ [.int 0] = .int n :: r := by
  cases e : cutL cs lo hi with
  | nil => exact ⟨0, [], rfl⟩
  | cons d r =>
    obtain ⟨n, rfl⟩ := hc d (cut_mem (by rw [e]; simp))
    exact ⟨n, r ++ [.int 0], rfl⟩
theorem take_ok {ds : List Dt} (h : Bag ds) {n : Int} (h0 : 0 < n) (h1 : n < 1073741824) : WpF m__law_take [.lst true ds, .imm (.int n)] fun r out => ∃ v ds', r = .val (.int v) ∧ 0 ≤ v ∧ v < n ∧ out = [.lst true ds', .imm (.int n)] ∧ Bag ds' := by
  obtain ⟨a, b, i, cs, rfl, hl, hc⟩ := h
  have hn : 0 < n ∧ n < 1073741824 := ⟨h0, h1⟩
  have m0 : ∀ x : Int, 0 ≤ x % n := fun x => Int.emod_nonneg x (by omega)
  have m1 : ∀ x : Int, x % n < n := fun x => Int.emod_lt_of_pos x h0
  have hB : ∀ x : Int, -(2 ^ 64) < x % 1000000007 ∧ x % 1000000007 < 2 ^ 64 := fun x => ⟨by omega, by omega⟩
  unfold m__law_take
  refine wpF_of fun K kr kn => ?_
  unfold b__law_take
  obtain ⟨c, r, hcut⟩ := head_of hc (some i) none
  have hix : dIx (.list (cutL cs (some i) none ++ [.int 0])) (.int 0) = some (.int c) := by rw [hcut]; exact dIx_L0
  have hcl := cut_len cs (some i) none
  repeat (first
          | with_reducible refine ws_mSeq ?_
          | with_reducible refine ws_nx ?_
          | with_reducible refine ws_rt ?_
          | with_reducible refine ws_mAsg ?_
          | with_reducible refine ws_mB ?_
          | with_reducible refine ws_mOp ?_
          | with_reducible refine ws_mOpN ?_
          | with_reducible refine ws_mC1 ?_
          | with_reducible refine ws_mC1N ?_
          | with_reducible refine ws_ret ?_
          | with_reducible refine ws_mFz ?_
          | with_reducible refine ws_mTst ?_
          | with_reducible refine ws_mIfS ?_
          | with_reducible refine ws_mIf ?_
          | with_reducible refine ws_mAnd ?_
          | with_reducible refine ws_mOr ?_
          | with_reducible refine ws_mNot ?_
          | with_reducible refine ws_mNext ?_
          | with_reducible refine ws_mRet ?_
          | with_reducible refine ws_mRetN ?_
          | with_reducible refine ws_mRetF ?_
          | with_reducible refine ws_mSl ?_
          | with_reducible refine ws_mSlL ?_
          | with_reducible refine ws_mPart ?_
          | with_reducible refine ws_mNoP ?_
          | with_reducible refine ws_mCons ?_
          | with_reducible refine ws_mNil ?_
          | with_reducible refine ws_mTup ?_
          | with_reducible refine ws_mLst ?_
          | with_reducible refine ws_mSetL ?_
          | with_reducible refine ws_mAugS ?_
          | with_reducible refine ws_mMtE ?_
          | with_reducible refine ws_mCall ?_
          | with_reducible refine ws_mRE ?_
          | with_reducible refine ws_mRN ?_
          | with_reducible refine ws_mAsgN ?_
          | with_reducible refine ws_mIsN ?_
          | with_reducible refine ws_mNeg ?_
          | with_reducible refine ws_mDrop ?_
          | with_reducible refine ws_bk ?_
          | with_reducible refine ws_ct ?_
          | with_reducible refine ws_mFor ?_
          | with_reducible refine fork_ok ?_
          | with_reducible refine ws_mSigns ?_
          | with_reducible refine strk_ok ?_
          | with_reducible refine ws_mSeq1 ?_
          | with_reducible refine ws_mEnum ?_
          | with_reducible refine ws_mRng1 ?_
          | with_reducible refine ws_mLc ?_
          | with_reducible refine ws_mYes ?_
          | with_reducible refine ws_mLeaf ?_
          | with_reducible refine if_t ?_
          | with_reducible refine if_nt ?_
          | with_reducible refine if_nf ?_
          | with_reducible refine if_f ?_
          | with_reducible refine ws_mIsStr ?_
          | with_reducible refine ws_mChain ?_
          | with_reducible refine ws_mS1 ?_
          | with_reducible refine ws_mS1N ?_
          | with_reducible refine ws_mS2N ?_
          | with_reducible refine ws_mMt0 ?_
          | with_reducible refine ws_mMt1 ?_
          | with_reducible refine ws_mMt2 ?_
          | with_reducible refine ws_mPar ?_
          | with_reducible refine ws_mXs_nil ?_
          | with_reducible refine ws_mXs_cons ?_
          | with_reducible refine ws_mXe ?_
          | with_reducible refine ws_mStar ?_
          | with_reducible refine ws_mAndV ?_
          | with_reducible refine ws_mOrV ?_
          | with_reducible refine ws_mNotV ?_
          | with_reducible refine tst_ok ?_
          | with_reducible refine chk_ok rfl ?_
          | with_reducible refine intk_ok ?_
          | ((with_reducible apply ws_mVB); rfl)
          | ((with_reducible apply ws_mV); rfl)
          | ((with_reducible apply ws_mAug); rfl)
          | ((with_reducible apply rngk_ok); (first | assumption | decide | omega))
          | ((with_reducible apply lck_ok); rfl; rfl)
          | ((with_reducible apply ws_tg); rfl)
          | ((with_reducible apply svk_ok); rfl)
          | ((with_reducible apply valk_ok); rfl; (first | assumption | decide | simp [LIM]))
          | ((with_reducible apply lstk_ok); rfl)
          | ((with_reducible apply putk_ok); rfl)
          | ((with_reducible apply andk_ok); rfl)
          | ((with_reducible apply ws_mRetV); rfl)
          | ((with_reducible apply op_any); rfl; rfl; (first | with_reducible exact dMod_ok (by first | assumption | decide) | with_reducible exact dIx_L0 | with_reducible exact dIx_L1 | with_reducible exact dIx_L2 | with_reducible exact dIx_L3 | with_reducible exact dIx_T0 | with_reducible exact dIx_T1 | with_reducible exact dIx_T2 | with_reducible exact dIx_T3 | with_reducible exact dMul_r (by decide) | with_reducible exact dMul_l (by decide) | with_reducible exact dMul_l (hB _) | with_reducible exact dPow_ok (by decide) | with_reducible exact dFdiv_ok (by first | assumption | decide) | with_reducible exact fSet_0 | with_reducible exact fSet_1 | with_reducible exact fSet_2 | with_reducible exact fGet_2 | rfl))
          | ((with_reducible apply opN_any); rfl; rfl; (first | with_reducible exact catL_ok (by first | assumption | decide | (simp only [List.length_cons, List.length_nil, LIM] at *; omega)) | rfl))
          | ((with_reducible apply c1_any); rfl; (first | with_reducible exact ord_sign _ | rfl))
          | ((with_reducible apply optk_ok); rfl)
          | ((with_reducible apply getk_ok); rfl; (first | with_reducible exact dMod_ok (by first | assumption | decide) | with_reducible exact dIx_L0 | with_reducible exact dIx_L1 | with_reducible exact dIx_L2 | with_reducible exact dIx_L3 | with_reducible exact dIx_T0 | with_reducible exact dIx_T1 | with_reducible exact dIx_T2 | with_reducible exact dIx_T3 | with_reducible exact dMul_r (by decide) | with_reducible exact dMul_l (by decide) | with_reducible exact dMul_l (hB _) | with_reducible exact dPow_ok (by decide) | with_reducible exact dFdiv_ok (by first | assumption | decide) | with_reducible exact fSet_0 | with_reducible exact fSet_1 | with_reducible exact fSet_2 | with_reducible exact fGet_2 | rfl))
          | ((with_reducible apply ls_ok); rfl; (first | with_reducible exact dMod_ok (by first | assumption | decide) | with_reducible exact dIx_L0 | with_reducible exact dIx_L1 | with_reducible exact dIx_L2 | with_reducible exact dIx_L3 | with_reducible exact dIx_T0 | with_reducible exact dIx_T1 | with_reducible exact dIx_T2 | with_reducible exact dIx_T3 | with_reducible exact dMul_r (by decide) | with_reducible exact dMul_l (by decide) | with_reducible exact dMul_l (hB _) | with_reducible exact dPow_ok (by decide) | with_reducible exact dFdiv_ok (by first | assumption | decide) | with_reducible exact fSet_0 | with_reducible exact fSet_1 | with_reducible exact fSet_2 | with_reducible exact fGet_2 | rfl))
          | ((with_reducible apply callk_ok); (simp [ownIx]); rfl))
  refine if_ok (fun e1 => ?_) (fun e1 => ?_)
  · repeat (first
          | with_reducible refine ws_mSeq ?_
          | with_reducible refine ws_nx ?_
          | with_reducible refine ws_rt ?_
          | with_reducible refine ws_mAsg ?_
          | with_reducible refine ws_mB ?_
          | with_reducible refine ws_mOp ?_
          | with_reducible refine ws_mOpN ?_
          | with_reducible refine ws_mC1 ?_
          | with_reducible refine ws_mC1N ?_
          | with_reducible refine ws_ret ?_
          | with_reducible refine ws_mFz ?_
          | with_reducible refine ws_mTst ?_
          | with_reducible refine ws_mIfS ?_
          | with_reducible refine ws_mIf ?_
          | with_reducible refine ws_mAnd ?_
          | with_reducible refine ws_mOr ?_
          | with_reducible refine ws_mNot ?_
          | with_reducible refine ws_mNext ?_
          | with_reducible refine ws_mRet ?_
          | with_reducible refine ws_mRetN ?_
          | with_reducible refine ws_mRetF ?_
          | with_reducible refine ws_mSl ?_
          | with_reducible refine ws_mSlL ?_
          | with_reducible refine ws_mPart ?_
          | with_reducible refine ws_mNoP ?_
          | with_reducible refine ws_mCons ?_
          | with_reducible refine ws_mNil ?_
          | with_reducible refine ws_mTup ?_
          | with_reducible refine ws_mLst ?_
          | with_reducible refine ws_mSetL ?_
          | with_reducible refine ws_mAugS ?_
          | with_reducible refine ws_mMtE ?_
          | with_reducible refine ws_mCall ?_
          | with_reducible refine ws_mRE ?_
          | with_reducible refine ws_mRN ?_
          | with_reducible refine ws_mAsgN ?_
          | with_reducible refine ws_mIsN ?_
          | with_reducible refine ws_mNeg ?_
          | with_reducible refine ws_mDrop ?_
          | with_reducible refine ws_bk ?_
          | with_reducible refine ws_ct ?_
          | with_reducible refine ws_mFor ?_
          | with_reducible refine fork_ok ?_
          | with_reducible refine ws_mSigns ?_
          | with_reducible refine strk_ok ?_
          | with_reducible refine ws_mSeq1 ?_
          | with_reducible refine ws_mEnum ?_
          | with_reducible refine ws_mRng1 ?_
          | with_reducible refine ws_mLc ?_
          | with_reducible refine ws_mYes ?_
          | with_reducible refine ws_mLeaf ?_
          | with_reducible refine if_t ?_
          | with_reducible refine if_nt ?_
          | with_reducible refine if_nf ?_
          | with_reducible refine if_f ?_
          | with_reducible refine ws_mIsStr ?_
          | with_reducible refine ws_mChain ?_
          | with_reducible refine ws_mS1 ?_
          | with_reducible refine ws_mS1N ?_
          | with_reducible refine ws_mS2N ?_
          | with_reducible refine ws_mMt0 ?_
          | with_reducible refine ws_mMt1 ?_
          | with_reducible refine ws_mMt2 ?_
          | with_reducible refine ws_mPar ?_
          | with_reducible refine ws_mXs_nil ?_
          | with_reducible refine ws_mXs_cons ?_
          | with_reducible refine ws_mXe ?_
          | with_reducible refine ws_mStar ?_
          | with_reducible refine ws_mAndV ?_
          | with_reducible refine ws_mOrV ?_
          | with_reducible refine ws_mNotV ?_
          | with_reducible refine tst_ok ?_
          | with_reducible refine chk_ok rfl ?_
          | with_reducible refine intk_ok ?_
          | ((with_reducible apply ws_mVB); rfl)
          | ((with_reducible apply ws_mV); rfl)
          | ((with_reducible apply ws_mAug); rfl)
          | ((with_reducible apply rngk_ok); (first | assumption | decide | omega))
          | ((with_reducible apply lck_ok); rfl; rfl)
          | ((with_reducible apply ws_tg); rfl)
          | ((with_reducible apply svk_ok); rfl)
          | ((with_reducible apply valk_ok); rfl; (first | assumption | decide | simp [LIM]))
          | ((with_reducible apply lstk_ok); rfl)
          | ((with_reducible apply putk_ok); rfl)
          | ((with_reducible apply andk_ok); rfl)
          | ((with_reducible apply ws_mRetV); rfl)
          | ((with_reducible apply op_any); rfl; rfl; (first | with_reducible exact dMod_ok (by first | assumption | decide) | with_reducible exact dIx_L0 | with_reducible exact dIx_L1 | with_reducible exact dIx_L2 | with_reducible exact dIx_L3 | with_reducible exact dIx_T0 | with_reducible exact dIx_T1 | with_reducible exact dIx_T2 | with_reducible exact dIx_T3 | with_reducible exact dMul_r (by decide) | with_reducible exact dMul_l (by decide) | with_reducible exact dMul_l (hB _) | with_reducible exact dPow_ok (by decide) | with_reducible exact dFdiv_ok (by first | assumption | decide) | with_reducible exact fSet_0 | with_reducible exact fSet_1 | with_reducible exact fSet_2 | with_reducible exact fGet_2 | rfl))
          | ((with_reducible apply opN_any); rfl; rfl; (first | with_reducible exact catL_ok (by first | assumption | decide | (simp only [List.length_cons, List.length_nil, LIM] at *; omega)) | rfl))
          | ((with_reducible apply c1_any); rfl; (first | with_reducible exact ord_sign _ | rfl))
          | ((with_reducible apply optk_ok); rfl)
          | ((with_reducible apply getk_ok); rfl; (first | with_reducible exact dMod_ok (by first | assumption | decide) | with_reducible exact dIx_L0 | with_reducible exact dIx_L1 | with_reducible exact dIx_L2 | with_reducible exact dIx_L3 | with_reducible exact dIx_T0 | with_reducible exact dIx_T1 | with_reducible exact dIx_T2 | with_reducible exact dIx_T3 | with_reducible exact dMul_r (by decide) | with_reducible exact dMul_l (by decide) | with_reducible exact dMul_l (hB _) | with_reducible exact dPow_ok (by decide) | with_reducible exact dFdiv_ok (by first | assumption | decide) | with_reducible exact fSet_0 | with_reducible exact fSet_1 | with_reducible exact fSet_2 | with_reducible exact fGet_2 | rfl))
          | ((with_reducible apply ls_ok); rfl; (first | with_reducible exact dMod_ok (by first | assumption | decide) | with_reducible exact dIx_L0 | with_reducible exact dIx_L1 | with_reducible exact dIx_L2 | with_reducible exact dIx_L3 | with_reducible exact dIx_T0 | with_reducible exact dIx_T1 | with_reducible exact dIx_T2 | with_reducible exact dIx_T3 | with_reducible exact dMul_r (by decide) | with_reducible exact dMul_l (by decide) | with_reducible exact dMul_l (hB _) | with_reducible exact dPow_ok (by decide) | with_reducible exact dFdiv_ok (by first | assumption | decide) | with_reducible exact fSet_0 | with_reducible exact fSet_1 | with_reducible exact fSet_2 | with_reducible exact fGet_2 | rfl))
          | ((with_reducible apply callk_ok); (simp [ownIx]); rfl))
    refine op_any rfl rfl hix ?_
    repeat (first
            | with_reducible refine ws_mSeq ?_
            | with_reducible refine ws_nx ?_
            | with_reducible refine ws_rt ?_
            | with_reducible refine ws_mAsg ?_
            | with_reducible refine ws_mB ?_
            | with_reducible refine ws_mOp ?_
            | with_reducible refine ws_mOpN ?_
            | with_reducible refine ws_mC1 ?_
            | with_reducible refine ws_mC1N ?_
            | with_reducible refine ws_ret ?_
            | with_reducible refine ws_mFz ?_
            | with_reducible refine ws_mTst ?_
            | with_reducible refine ws_mIfS ?_
            | with_reducible refine ws_mIf ?_
            | with_reducible refine ws_mAnd ?_
            | with_reducible refine ws_mOr ?_
            | with_reducible refine ws_mNot ?_
            | with_reducible refine ws_mNext ?_
            | with_reducible refine ws_mRet ?_
            | with_reducible refine ws_mRetN ?_
            | with_reducible refine ws_mRetF ?_
            | with_reducible refine ws_mSl ?_
            | with_reducible refine ws_mSlL ?_
            | with_reducible refine ws_mPart ?_
            | with_reducible refine ws_mNoP ?_
            | with_reducible refine ws_mCons ?_
            | with_reducible refine ws_mNil ?_
            | with_reducible refine ws_mTup ?_
            | with_reducible refine ws_mLst ?_
            | with_reducible refine ws_mSetL ?_
            | with_reducible refine ws_mAugS ?_
            | with_reducible refine ws_mMtE ?_
            | with_reducible refine ws_mCall ?_
            | with_reducible refine ws_mRE ?_
            | with_reducible refine ws_mRN ?_
            | with_reducible refine ws_mAsgN ?_
            | with_reducible refine ws_mIsN ?_
            | with_reducible refine ws_mNeg ?_
            | with_reducible refine ws_mDrop ?_
            | with_reducible refine ws_bk ?_
            | with_reducible refine ws_ct ?_
            | with_reducible refine ws_mFor ?_
            | with_reducible refine fork_ok ?_
            | with_reducible refine ws_mSigns ?_
            | with_reducible refine strk_ok ?_
            | with_reducible refine ws_mSeq1 ?_
            | with_reducible refine ws_mEnum ?_
            | with_reducible refine ws_mRng1 ?_
            | with_reducible refine ws_mLc ?_
            | with_reducible refine ws_mYes ?_
            | with_reducible refine ws_mLeaf ?_
            | with_reducible refine if_t ?_
            | with_reducible refine if_nt ?_
            | with_reducible refine if_nf ?_
            | with_reducible refine if_f ?_
            | with_reducible refine ws_mIsStr ?_
            | with_reducible refine ws_mChain ?_
            | with_reducible refine ws_mS1 ?_
            | with_reducible refine ws_mS1N ?_
            | with_reducible refine ws_mS2N ?_
            | with_reducible refine ws_mMt0 ?_
            | with_reducible refine ws_mMt1 ?_
            | with_reducible refine ws_mMt2 ?_
            | with_reducible refine ws_mPar ?_
            | with_reducible refine ws_mXs_nil ?_
            | with_reducible refine ws_mXs_cons ?_
            | with_reducible refine ws_mXe ?_
            | with_reducible refine ws_mStar ?_
            | with_reducible refine ws_mAndV ?_
            | with_reducible refine ws_mOrV ?_
            | with_reducible refine ws_mNotV ?_
            | with_reducible refine tst_ok ?_
            | with_reducible refine chk_ok rfl ?_
            | with_reducible refine intk_ok ?_
            | ((with_reducible apply ws_mVB); rfl)
            | ((with_reducible apply ws_mV); rfl)
            | ((with_reducible apply ws_mAug); rfl)
            | ((with_reducible apply rngk_ok); (first | assumption | decide | omega))
            | ((with_reducible apply lck_ok); rfl; rfl)
            | ((with_reducible apply ws_tg); rfl)
            | ((with_reducible apply svk_ok); rfl)
            | ((with_reducible apply valk_ok); rfl; (first | assumption | decide | simp [LIM]))
            | ((with_reducible apply lstk_ok); rfl)
            | ((with_reducible apply putk_ok); rfl)
            | ((with_reducible apply andk_ok); rfl)
            | ((with_reducible apply ws_mRetV); rfl)
            | ((with_reducible apply op_any); rfl; rfl; (first | with_reducible exact dMod_ok (by first | assumption | decide) | with_reducible exact dIx_L0 | with_reducible exact dIx_L1 | with_reducible exact dIx_L2 | with_reducible exact dIx_L3 | with_reducible exact dIx_T0 | with_reducible exact dIx_T1 | with_reducible exact dIx_T2 | with_reducible exact dIx_T3 | with_reducible exact dMul_r (by decide) | with_reducible exact dMul_l (by decide) | with_reducible exact dMul_l (hB _) | with_reducible exact dPow_ok (by decide) | with_reducible exact dFdiv_ok (by first | assumption | decide) | with_reducible exact fSet_0 | with_reducible exact fSet_1 | with_reducible exact fSet_2 | with_reducible exact fGet_2 | rfl))
            | ((with_reducible apply opN_any); rfl; rfl; (first | with_reducible exact catL_ok (by first | assumption | decide | (simp only [List.length_cons, List.length_nil, LIM] at *; omega)) | rfl))
            | ((with_reducible apply c1_any); rfl; (first | with_reducible exact ord_sign _ | rfl))
            | ((with_reducible apply optk_ok); rfl)
            | ((with_reducible apply getk_ok); rfl; (first | with_reducible exact dMod_ok (by first | assumption | decide) | with_reducible exact dIx_L0 | with_reducible exact dIx_L1 | with_reducible exact dIx_L2 | with_reducible exact dIx_L3 | with_reducible exact dIx_T0 | with_reducible exact dIx_T1 | with_reducible exact dIx_T2 | with_reducible exact dIx_T3 | with_reducible exact dMul_r (by decide) | with_reducible exact dMul_l (by decide) | with_reducible exact dMul_l (hB _) | with_reducible exact dPow_ok (by decide) | with_reducible exact dFdiv_ok (by first | assumption | decide) | with_reducible exact fSet_0 | with_reducible exact fSet_1 | with_reducible exact fSet_2 | with_reducible exact fGet_2 | rfl))
            | ((with_reducible apply ls_ok); rfl; (first | with_reducible exact dMod_ok (by first | assumption | decide) | with_reducible exact dIx_L0 | with_reducible exact dIx_L1 | with_reducible exact dIx_L2 | with_reducible exact dIx_L3 | with_reducible exact dIx_T0 | with_reducible exact dIx_T1 | with_reducible exact dIx_T2 | with_reducible exact dIx_T3 | with_reducible exact dMul_r (by decide) | with_reducible exact dMul_l (by decide) | with_reducible exact dMul_l (hB _) | with_reducible exact dPow_ok (by decide) | with_reducible exact dFdiv_ok (by first | assumption | decide) | with_reducible exact fSet_0 | with_reducible exact fSet_1 | with_reducible exact fSet_2 | with_reducible exact fGet_2 | rfl))
            | ((with_reducible apply callk_ok); (simp [ownIx]); rfl))
    refine if_ok (fun e2 => ?_) (fun e2 => ?_)
    all_goals
      repeat (first
              | with_reducible refine ws_mSeq ?_
              | with_reducible refine ws_nx ?_
              | with_reducible refine ws_rt ?_
              | with_reducible refine ws_mAsg ?_
              | with_reducible refine ws_mB ?_
              | with_reducible refine ws_mOp ?_
              | with_reducible refine ws_mOpN ?_
              | with_reducible refine ws_mC1 ?_
              | with_reducible refine ws_mC1N ?_
              | with_reducible refine ws_ret ?_
              | with_reducible refine ws_mFz ?_
              | with_reducible refine ws_mTst ?_
              | with_reducible refine ws_mIfS ?_
              | with_reducible refine ws_mIf ?_
              | with_reducible refine ws_mAnd ?_
              | with_reducible refine ws_mOr ?_
              | with_reducible refine ws_mNot ?_
              | with_reducible refine ws_mNext ?_
              | with_reducible refine ws_mRet ?_
              | with_reducible refine ws_mRetN ?_
              | with_reducible refine ws_mRetF ?_
              | with_reducible refine ws_mSl ?_
              | with_reducible refine ws_mSlL ?_
              | with_reducible refine ws_mPart ?_
              | with_reducible refine ws_mNoP ?_
              | with_reducible refine ws_mCons ?_
              | with_reducible refine ws_mNil ?_
              | with_reducible refine ws_mTup ?_
              | with_reducible refine ws_mLst ?_
              | with_reducible refine ws_mSetL ?_
              | with_reducible refine ws_mAugS ?_
              | with_reducible refine ws_mMtE ?_
              | with_reducible refine ws_mCall ?_
              | with_reducible refine ws_mRE ?_
              | with_reducible refine ws_mRN ?_
              | with_reducible refine ws_mAsgN ?_
              | with_reducible refine ws_mIsN ?_
              | with_reducible refine ws_mNeg ?_
              | with_reducible refine ws_mDrop ?_
              | with_reducible refine ws_bk ?_
              | with_reducible refine ws_ct ?_
              | with_reducible refine ws_mFor ?_
              | with_reducible refine fork_ok ?_
              | with_reducible refine ws_mSigns ?_
              | with_reducible refine strk_ok ?_
              | with_reducible refine ws_mSeq1 ?_
              | with_reducible refine ws_mEnum ?_
              | with_reducible refine ws_mRng1 ?_
              | with_reducible refine ws_mLc ?_
              | with_reducible refine ws_mYes ?_
              | with_reducible refine ws_mLeaf ?_
              | with_reducible refine if_t ?_
              | with_reducible refine if_nt ?_
              | with_reducible refine if_nf ?_
              | with_reducible refine if_f ?_
              | with_reducible refine ws_mIsStr ?_
              | with_reducible refine ws_mChain ?_
              | with_reducible refine ws_mS1 ?_
              | with_reducible refine ws_mS1N ?_
              | with_reducible refine ws_mS2N ?_
              | with_reducible refine ws_mMt0 ?_
              | with_reducible refine ws_mMt1 ?_
              | with_reducible refine ws_mMt2 ?_
              | with_reducible refine ws_mPar ?_
              | with_reducible refine ws_mXs_nil ?_
              | with_reducible refine ws_mXs_cons ?_
              | with_reducible refine ws_mXe ?_
              | with_reducible refine ws_mStar ?_
              | with_reducible refine ws_mAndV ?_
              | with_reducible refine ws_mOrV ?_
              | with_reducible refine ws_mNotV ?_
              | with_reducible refine tst_ok ?_
              | with_reducible refine chk_ok rfl ?_
              | with_reducible refine intk_ok ?_
              | ((with_reducible apply ws_mVB); rfl)
              | ((with_reducible apply ws_mV); rfl)
              | ((with_reducible apply ws_mAug); rfl)
              | ((with_reducible apply rngk_ok); (first | assumption | decide | omega))
              | ((with_reducible apply lck_ok); rfl; rfl)
              | ((with_reducible apply ws_tg); rfl)
              | ((with_reducible apply svk_ok); rfl)
              | ((with_reducible apply valk_ok); rfl; (first | assumption | decide | simp [LIM]))
              | ((with_reducible apply lstk_ok); rfl)
              | ((with_reducible apply putk_ok); rfl)
              | ((with_reducible apply andk_ok); rfl)
              | ((with_reducible apply ws_mRetV); rfl)
              | ((with_reducible apply op_any); rfl; rfl; (first | with_reducible exact dMod_ok (by first | assumption | decide) | with_reducible exact dIx_L0 | with_reducible exact dIx_L1 | with_reducible exact dIx_L2 | with_reducible exact dIx_L3 | with_reducible exact dIx_T0 | with_reducible exact dIx_T1 | with_reducible exact dIx_T2 | with_reducible exact dIx_T3 | with_reducible exact dMul_r (by decide) | with_reducible exact dMul_l (by decide) | with_reducible exact dMul_l (hB _) | with_reducible exact dPow_ok (by decide) | with_reducible exact dFdiv_ok (by first | assumption | decide) | with_reducible exact fSet_0 | with_reducible exact fSet_1 | with_reducible exact fSet_2 | with_reducible exact fGet_2 | rfl))
              | ((with_reducible apply opN_any); rfl; rfl; (first | with_reducible exact catL_ok (by first | assumption | decide | (simp only [List.length_cons, List.length_nil, LIM] at *; omega)) | rfl))
              | ((with_reducible apply c1_any); rfl; (first | with_reducible exact ord_sign _ | rfl))
              | ((with_reducible apply optk_ok); rfl)
              | ((with_reducible apply getk_ok); rfl; (first | with_reducible exact dMod_ok (by first | assumption | decide) | with_reducible exact dIx_L0 | with_reducible exact dIx_L1 | with_reducible exact dIx_L2 | with_reducible exact dIx_L3 | with_reducible exact dIx_T0 | with_reducible exact dIx_T1 | with_reducible exact dIx_T2 | with_reducible exact dIx_T3 | with_reducible exact dMul_r (by decide) | with_reducible exact dMul_l (by decide) | with_reducible exact dMul_l (hB _) | with_reducible exact dPow_ok (by decide) | with_reducible exact dFdiv_ok (by first | assumption | decide) | with_reducible exact fSet_0 | with_reducible exact fSet_1 | with_reducible exact fSet_2 | with_reducible exact fGet_2 | rfl))
              | ((with_reducible apply ls_ok); rfl; (first | with_reducible exact dMod_ok (by first | assumption | decide) | with_reducible exact dIx_L0 | with_reducible exact dIx_L1 | with_reducible exact dIx_L2 | with_reducible exact dIx_L3 | with_reducible exact dIx_T0 | with_reducible exact dIx_T1 | with_reducible exact dIx_T2 | with_reducible exact dIx_T3 | with_reducible exact dMul_r (by decide) | with_reducible exact dMul_l (by decide) | with_reducible exact dMul_l (hB _) | with_reducible exact dPow_ok (by decide) | with_reducible exact dFdiv_ok (by first | assumption | decide) | with_reducible exact fSet_0 | with_reducible exact fSet_1 | with_reducible exact fSet_2 | with_reducible exact fGet_2 | rfl))
              | ((with_reducible apply callk_ok); (simp [ownIx]); rfl))
      refine if_ok (fun e3 => ?_) (fun e3 => ?_)
      all_goals
        repeat (first
                | with_reducible refine ws_mSeq ?_
                | with_reducible refine ws_nx ?_
                | with_reducible refine ws_rt ?_
                | with_reducible refine ws_mAsg ?_
                | with_reducible refine ws_mB ?_
                | with_reducible refine ws_mOp ?_
                | with_reducible refine ws_mOpN ?_
                | with_reducible refine ws_mC1 ?_
                | with_reducible refine ws_mC1N ?_
                | with_reducible refine ws_ret ?_
                | with_reducible refine ws_mFz ?_
                | with_reducible refine ws_mTst ?_
                | with_reducible refine ws_mIfS ?_
                | with_reducible refine ws_mIf ?_
                | with_reducible refine ws_mAnd ?_
                | with_reducible refine ws_mOr ?_
                | with_reducible refine ws_mNot ?_
                | with_reducible refine ws_mNext ?_
                | with_reducible refine ws_mRet ?_
                | with_reducible refine ws_mRetN ?_
                | with_reducible refine ws_mRetF ?_
                | with_reducible refine ws_mSl ?_
                | with_reducible refine ws_mSlL ?_
                | with_reducible refine ws_mPart ?_
                | with_reducible refine ws_mNoP ?_
                | with_reducible refine ws_mCons ?_
                | with_reducible refine ws_mNil ?_
                | with_reducible refine ws_mTup ?_
                | with_reducible refine ws_mLst ?_
                | with_reducible refine ws_mSetL ?_
                | with_reducible refine ws_mAugS ?_
                | with_reducible refine ws_mMtE ?_
                | with_reducible refine ws_mCall ?_
                | with_reducible refine ws_mRE ?_
                | with_reducible refine ws_mRN ?_
                | with_reducible refine ws_mAsgN ?_
                | with_reducible refine ws_mIsN ?_
                | with_reducible refine ws_mNeg ?_
                | with_reducible refine ws_mDrop ?_
                | with_reducible refine ws_bk ?_
                | with_reducible refine ws_ct ?_
                | with_reducible refine ws_mFor ?_
                | with_reducible refine fork_ok ?_
                | with_reducible refine ws_mSigns ?_
                | with_reducible refine strk_ok ?_
                | with_reducible refine ws_mSeq1 ?_
                | with_reducible refine ws_mEnum ?_
                | with_reducible refine ws_mRng1 ?_
                | with_reducible refine ws_mLc ?_
                | with_reducible refine ws_mYes ?_
                | with_reducible refine ws_mLeaf ?_
                | with_reducible refine if_t ?_
                | with_reducible refine if_nt ?_
                | with_reducible refine if_nf ?_
                | with_reducible refine if_f ?_
                | with_reducible refine ws_mIsStr ?_
                | with_reducible refine ws_mChain ?_
                | with_reducible refine ws_mS1 ?_
                | with_reducible refine ws_mS1N ?_
                | with_reducible refine ws_mS2N ?_
                | with_reducible refine ws_mMt0 ?_
                | with_reducible refine ws_mMt1 ?_
                | with_reducible refine ws_mMt2 ?_
                | with_reducible refine ws_mPar ?_
                | with_reducible refine ws_mXs_nil ?_
                | with_reducible refine ws_mXs_cons ?_
                | with_reducible refine ws_mXe ?_
                | with_reducible refine ws_mStar ?_
                | with_reducible refine ws_mAndV ?_
                | with_reducible refine ws_mOrV ?_
                | with_reducible refine ws_mNotV ?_
                | with_reducible refine tst_ok ?_
                | with_reducible refine chk_ok rfl ?_
                | with_reducible refine intk_ok ?_
                | ((with_reducible apply ws_mVB); rfl)
                | ((with_reducible apply ws_mV); rfl)
                | ((with_reducible apply ws_mAug); rfl)
                | ((with_reducible apply rngk_ok); (first | assumption | decide | omega))
                | ((with_reducible apply lck_ok); rfl; rfl)
                | ((with_reducible apply ws_tg); rfl)
                | ((with_reducible apply svk_ok); rfl)
                | ((with_reducible apply valk_ok); rfl; (first | assumption | decide | simp [LIM]))
                | ((with_reducible apply lstk_ok); rfl)
                | ((with_reducible apply putk_ok); rfl)
                | ((with_reducible apply andk_ok); rfl)
                | ((with_reducible apply ws_mRetV); rfl)
                | ((with_reducible apply op_any); rfl; rfl; (first | with_reducible exact dMod_ok (by first | assumption | decide) | with_reducible exact dIx_L0 | with_reducible exact dIx_L1 | with_reducible exact dIx_L2 | with_reducible exact dIx_L3 | with_reducible exact dIx_T0 | with_reducible exact dIx_T1 | with_reducible exact dIx_T2 | with_reducible exact dIx_T3 | with_reducible exact dMul_r (by decide) | with_reducible exact dMul_l (by decide) | with_reducible exact dMul_l (hB _) | with_reducible exact dPow_ok (by decide) | with_reducible exact dFdiv_ok (by first | assumption | decide) | with_reducible exact fSet_0 | with_reducible exact fSet_1 | with_reducible exact fSet_2 | with_reducible exact fGet_2 | rfl))
                | ((with_reducible apply opN_any); rfl; rfl; (first | with_reducible exact catL_ok (by first | assumption | decide | (simp only [List.length_cons, List.length_nil, LIM] at *; omega)) | rfl))
                | ((with_reducible apply c1_any); rfl; (first | with_reducible exact ord_sign _ | rfl))
                | ((with_reducible apply optk_ok); rfl)
                | ((with_reducible apply getk_ok); rfl; (first | with_reducible exact dMod_ok (by first | assumption | decide) | with_reducible exact dIx_L0 | with_reducible exact dIx_L1 | with_reducible exact dIx_L2 | with_reducible exact dIx_L3 | with_reducible exact dIx_T0 | with_reducible exact dIx_T1 | with_reducible exact dIx_T2 | with_reducible exact dIx_T3 | with_reducible exact dMul_r (by decide) | with_reducible exact dMul_l (by decide) | with_reducible exact dMul_l (hB _) | with_reducible exact dPow_ok (by decide) | with_reducible exact dFdiv_ok (by first | assumption | decide) | with_reducible exact fSet_0 | with_reducible exact fSet_1 | with_reducible exact fSet_2 | with_reducible exact fGet_2 | rfl))
                | ((with_reducible apply ls_ok); rfl; (first | with_reducible exact dMod_ok (by first | assumption | decide) | with_reducible exact dIx_L0 | with_reducible exact dIx_L1 | with_reducible exact dIx_L2 | with_reducible exact dIx_L3 | with_reducible exact dIx_T0 | with_reducible exact dIx_T1 | with_reducible exact dIx_T2 | with_reducible exact dIx_T3 | with_reducible exact dMul_r (by decide) | with_reducible exact dMul_l (by decide) | with_reducible exact dMul_l (hB _) | with_reducible exact dPow_ok (by decide) | with_reducible exact dFdiv_ok (by first | assumption | decide) | with_reducible exact fSet_0 | with_reducible exact fSet_1 | with_reducible exact fSet_2 | with_reducible exact fGet_2 | rfl))
                | ((with_reducible apply callk_ok); (simp [ownIx]); rfl))
        exact kr _ _ ⟨_, _, rfl, m0 _, m1 _, rfl, _, _, _, cs, rfl, hl, hc⟩
  · repeat (first
          | with_reducible refine ws_mSeq ?_
          | with_reducible refine ws_nx ?_
          | with_reducible refine ws_rt ?_
          | with_reducible refine ws_mAsg ?_
          | with_reducible refine ws_mB ?_
          | with_reducible refine ws_mOp ?_
          | with_reducible refine ws_mOpN ?_
          | with_reducible refine ws_mC1 ?_
          | with_reducible refine ws_mC1N ?_
          | with_reducible refine ws_ret ?_
          | with_reducible refine ws_mFz ?_
          | with_reducible refine ws_mTst ?_
          | with_reducible refine ws_mIfS ?_
          | with_reducible refine ws_mIf ?_
          | with_reducible refine ws_mAnd ?_
          | with_reducible refine ws_mOr ?_
          | with_reducible refine ws_mNot ?_
          | with_reducible refine ws_mNext ?_
          | with_reducible refine ws_mRet ?_
          | with_reducible refine ws_mRetN ?_
          | with_reducible refine ws_mRetF ?_
          | with_reducible refine ws_mSl ?_
          | with_reducible refine ws_mSlL ?_
          | with_reducible refine ws_mPart ?_
          | with_reducible refine ws_mNoP ?_
          | with_reducible refine ws_mCons ?_
          | with_reducible refine ws_mNil ?_
          | with_reducible refine ws_mTup ?_
          | with_reducible refine ws_mLst ?_
          | with_reducible refine ws_mSetL ?_
          | with_reducible refine ws_mAugS ?_
          | with_reducible refine ws_mMtE ?_
          | with_reducible refine ws_mCall ?_
          | with_reducible refine ws_mRE ?_
          | with_reducible refine ws_mRN ?_
          | with_reducible refine ws_mAsgN ?_
          | with_reducible refine ws_mIsN ?_
          | with_reducible refine ws_mNeg ?_
          | with_reducible refine ws_mDrop ?_
          | with_reducible refine ws_bk ?_
          | with_reducible refine ws_ct ?_
          | with_reducible refine ws_mFor ?_
          | with_reducible refine fork_ok ?_
          | with_reducible refine ws_mSigns ?_
          | with_reducible refine strk_ok ?_
          | with_reducible refine ws_mSeq1 ?_
          | with_reducible refine ws_mEnum ?_
          | with_reducible refine ws_mRng1 ?_
          | with_reducible refine ws_mLc ?_
          | with_reducible refine ws_mYes ?_
          | with_reducible refine ws_mLeaf ?_
          | with_reducible refine if_t ?_
          | with_reducible refine if_nt ?_
          | with_reducible refine if_nf ?_
          | with_reducible refine if_f ?_
          | with_reducible refine ws_mIsStr ?_
          | with_reducible refine ws_mChain ?_
          | with_reducible refine ws_mS1 ?_
          | with_reducible refine ws_mS1N ?_
          | with_reducible refine ws_mS2N ?_
          | with_reducible refine ws_mMt0 ?_
          | with_reducible refine ws_mMt1 ?_
          | with_reducible refine ws_mMt2 ?_
          | with_reducible refine ws_mPar ?_
          | with_reducible refine ws_mXs_nil ?_
          | with_reducible refine ws_mXs_cons ?_
          | with_reducible refine ws_mXe ?_
          | with_reducible refine ws_mStar ?_
          | with_reducible refine ws_mAndV ?_
          | with_reducible refine ws_mOrV ?_
          | with_reducible refine ws_mNotV ?_
          | with_reducible refine tst_ok ?_
          | with_reducible refine chk_ok rfl ?_
          | with_reducible refine intk_ok ?_
          | ((with_reducible apply ws_mVB); rfl)
          | ((with_reducible apply ws_mV); rfl)
          | ((with_reducible apply ws_mAug); rfl)
          | ((with_reducible apply rngk_ok); (first | assumption | decide | omega))
          | ((with_reducible apply lck_ok); rfl; rfl)
          | ((with_reducible apply ws_tg); rfl)
          | ((with_reducible apply svk_ok); rfl)
          | ((with_reducible apply valk_ok); rfl; (first | assumption | decide | simp [LIM]))
          | ((with_reducible apply lstk_ok); rfl)
          | ((with_reducible apply putk_ok); rfl)
          | ((with_reducible apply andk_ok); rfl)
          | ((with_reducible apply ws_mRetV); rfl)
          | ((with_reducible apply op_any); rfl; rfl; (first | with_reducible exact dMod_ok (by first | assumption | decide) | with_reducible exact dIx_L0 | with_reducible exact dIx_L1 | with_reducible exact dIx_L2 | with_reducible exact dIx_L3 | with_reducible exact dIx_T0 | with_reducible exact dIx_T1 | with_reducible exact dIx_T2 | with_reducible exact dIx_T3 | with_reducible exact dMul_r (by decide) | with_reducible exact dMul_l (by decide) | with_reducible exact dMul_l (hB _) | with_reducible exact dPow_ok (by decide) | with_reducible exact dFdiv_ok (by first | assumption | decide) | with_reducible exact fSet_0 | with_reducible exact fSet_1 | with_reducible exact fSet_2 | with_reducible exact fGet_2 | rfl))
          | ((with_reducible apply opN_any); rfl; rfl; (first | with_reducible exact catL_ok (by first | assumption | decide | (simp only [List.length_cons, List.length_nil, LIM] at *; omega)) | rfl))
          | ((with_reducible apply c1_any); rfl; (first | with_reducible exact ord_sign _ | rfl))
          | ((with_reducible apply optk_ok); rfl)
          | ((with_reducible apply getk_ok); rfl; (first | with_reducible exact dMod_ok (by first | assumption | decide) | with_reducible exact dIx_L0 | with_reducible exact dIx_L1 | with_reducible exact dIx_L2 | with_reducible exact dIx_L3 | with_reducible exact dIx_T0 | with_reducible exact dIx_T1 | with_reducible exact dIx_T2 | with_reducible exact dIx_T3 | with_reducible exact dMul_r (by decide) | with_reducible exact dMul_l (by decide) | with_reducible exact dMul_l (hB _) | with_reducible exact dPow_ok (by decide) | with_reducible exact dFdiv_ok (by first | assumption | decide) | with_reducible exact fSet_0 | with_reducible exact fSet_1 | with_reducible exact fSet_2 | with_reducible exact fGet_2 | rfl))
          | ((with_reducible apply ls_ok); rfl; (first | with_reducible exact dMod_ok (by first | assumption | decide) | with_reducible exact dIx_L0 | with_reducible exact dIx_L1 | with_reducible exact dIx_L2 | with_reducible exact dIx_L3 | with_reducible exact dIx_T0 | with_reducible exact dIx_T1 | with_reducible exact dIx_T2 | with_reducible exact dIx_T3 | with_reducible exact dMul_r (by decide) | with_reducible exact dMul_l (by decide) | with_reducible exact dMul_l (hB _) | with_reducible exact dPow_ok (by decide) | with_reducible exact dFdiv_ok (by first | assumption | decide) | with_reducible exact fSet_0 | with_reducible exact fSet_1 | with_reducible exact fSet_2 | with_reducible exact fGet_2 | rfl))
          | ((with_reducible apply callk_ok); (simp [ownIx]); rfl))
    refine if_ok (fun e3 => ?_) (fun e3 => ?_)
    all_goals
      repeat (first
              | with_reducible refine ws_mSeq ?_
              | with_reducible refine ws_nx ?_
              | with_reducible refine ws_rt ?_
              | with_reducible refine ws_mAsg ?_
              | with_reducible refine ws_mB ?_
              | with_reducible refine ws_mOp ?_
              | with_reducible refine ws_mOpN ?_
              | with_reducible refine ws_mC1 ?_
              | with_reducible refine ws_mC1N ?_
              | with_reducible refine ws_ret ?_
              | with_reducible refine ws_mFz ?_
              | with_reducible refine ws_mTst ?_
              | with_reducible refine ws_mIfS ?_
              | with_reducible refine ws_mIf ?_
              | with_reducible refine ws_mAnd ?_
              | with_reducible refine ws_mOr ?_
              | with_reducible refine ws_mNot ?_
              | with_reducible refine ws_mNext ?_
              | with_reducible refine ws_mRet ?_
              | with_reducible refine ws_mRetN ?_
              | with_reducible refine ws_mRetF ?_
              | with_reducible refine ws_mSl ?_
              | with_reducible refine ws_mSlL ?_
              | with_reducible refine ws_mPart ?_
              | with_reducible refine ws_mNoP ?_
              | with_reducible refine ws_mCons ?_
              | with_reducible refine ws_mNil ?_
              | with_reducible refine ws_mTup ?_
              | with_reducible refine ws_mLst ?_
              | with_reducible refine ws_mSetL ?_
              | with_reducible refine ws_mAugS ?_
              | with_reducible refine ws_mMtE ?_
              | with_reducible refine ws_mCall ?_
              | with_reducible refine ws_mRE ?_
              | with_reducible refine ws_mRN ?_
              | with_reducible refine ws_mAsgN ?_
              | with_reducible refine ws_mIsN ?_
              | with_reducible refine ws_mNeg ?_
              | with_reducible refine ws_mDrop ?_
              | with_reducible refine ws_bk ?_
              | with_reducible refine ws_ct ?_
              | with_reducible refine ws_mFor ?_
              | with_reducible refine fork_ok ?_
              | with_reducible refine ws_mSigns ?_
              | with_reducible refine strk_ok ?_
              | with_reducible refine ws_mSeq1 ?_
              | with_reducible refine ws_mEnum ?_
              | with_reducible refine ws_mRng1 ?_
              | with_reducible refine ws_mLc ?_
              | with_reducible refine ws_mYes ?_
              | with_reducible refine ws_mLeaf ?_
              | with_reducible refine if_t ?_
              | with_reducible refine if_nt ?_
              | with_reducible refine if_nf ?_
              | with_reducible refine if_f ?_
              | with_reducible refine ws_mIsStr ?_
              | with_reducible refine ws_mChain ?_
              | with_reducible refine ws_mS1 ?_
              | with_reducible refine ws_mS1N ?_
              | with_reducible refine ws_mS2N ?_
              | with_reducible refine ws_mMt0 ?_
              | with_reducible refine ws_mMt1 ?_
              | with_reducible refine ws_mMt2 ?_
              | with_reducible refine ws_mPar ?_
              | with_reducible refine ws_mXs_nil ?_
              | with_reducible refine ws_mXs_cons ?_
              | with_reducible refine ws_mXe ?_
              | with_reducible refine ws_mStar ?_
              | with_reducible refine ws_mAndV ?_
              | with_reducible refine ws_mOrV ?_
              | with_reducible refine ws_mNotV ?_
              | with_reducible refine tst_ok ?_
              | with_reducible refine chk_ok rfl ?_
              | with_reducible refine intk_ok ?_
              | ((with_reducible apply ws_mVB); rfl)
              | ((with_reducible apply ws_mV); rfl)
              | ((with_reducible apply ws_mAug); rfl)
              | ((with_reducible apply rngk_ok); (first | assumption | decide | omega))
              | ((with_reducible apply lck_ok); rfl; rfl)
              | ((with_reducible apply ws_tg); rfl)
              | ((with_reducible apply svk_ok); rfl)
              | ((with_reducible apply valk_ok); rfl; (first | assumption | decide | simp [LIM]))
              | ((with_reducible apply lstk_ok); rfl)
              | ((with_reducible apply putk_ok); rfl)
              | ((with_reducible apply andk_ok); rfl)
              | ((with_reducible apply ws_mRetV); rfl)
              | ((with_reducible apply op_any); rfl; rfl; (first | with_reducible exact dMod_ok (by first | assumption | decide) | with_reducible exact dIx_L0 | with_reducible exact dIx_L1 | with_reducible exact dIx_L2 | with_reducible exact dIx_L3 | with_reducible exact dIx_T0 | with_reducible exact dIx_T1 | with_reducible exact dIx_T2 | with_reducible exact dIx_T3 | with_reducible exact dMul_r (by decide) | with_reducible exact dMul_l (by decide) | with_reducible exact dMul_l (hB _) | with_reducible exact dPow_ok (by decide) | with_reducible exact dFdiv_ok (by first | assumption | decide) | with_reducible exact fSet_0 | with_reducible exact fSet_1 | with_reducible exact fSet_2 | with_reducible exact fGet_2 | rfl))
              | ((with_reducible apply opN_any); rfl; rfl; (first | with_reducible exact catL_ok (by first | assumption | decide | (simp only [List.length_cons, List.length_nil, LIM] at *; omega)) | rfl))
              | ((with_reducible apply c1_any); rfl; (first | with_reducible exact ord_sign _ | rfl))
              | ((with_reducible apply optk_ok); rfl)
              | ((with_reducible apply getk_ok); rfl; (first | with_reducible exact dMod_ok (by first | assumption | decide) | with_reducible exact dIx_L0 | with_reducible exact dIx_L1 | with_reducible exact dIx_L2 | with_reducible exact dIx_L3 | with_reducible exact dIx_T0 | with_reducible exact dIx_T1 | with_reducible exact dIx_T2 | with_reducible exact dIx_T3 | with_reducible exact dMul_r (by decide) | with_reducible exact dMul_l (by decide) | with_reducible exact dMul_l (hB _) | with_reducible exact dPow_ok (by decide) | with_reducible exact dFdiv_ok (by first | assumption | decide) | with_reducible exact fSet_0 | with_reducible exact fSet_1 | with_reducible exact fSet_2 | with_reducible exact fGet_2 | rfl))
              | ((with_reducible apply ls_ok); rfl; (first | with_reducible exact dMod_ok (by first | assumption | decide) | with_reducible exact dIx_L0 | with_reducible exact dIx_L1 | with_reducible exact dIx_L2 | with_reducible exact dIx_L3 | with_reducible exact dIx_T0 | with_reducible exact dIx_T1 | with_reducible exact dIx_T2 | with_reducible exact dIx_T3 | with_reducible exact dMul_r (by decide) | with_reducible exact dMul_l (by decide) | with_reducible exact dMul_l (hB _) | with_reducible exact dPow_ok (by decide) | with_reducible exact dFdiv_ok (by first | assumption | decide) | with_reducible exact fSet_0 | with_reducible exact fSet_1 | with_reducible exact fSet_2 | with_reducible exact fGet_2 | rfl))
              | ((with_reducible apply callk_ok); (simp [ownIx]); rfl))
      exact kr _ _ ⟨_, _, rfl, m0 _, m1 _, rfl, _, _, _, cs, rfl, hl, hc⟩
/-! ### sums -/
theorem sum_ok (a : Int) (x : Str) : WpF m_sum_behind [.imm (.int a), .imm (.str x)] fun r out => r = .val (.int (sumB a (tl x))) ∧ out = [.imm (.int a), .imm (.str x)] := by
  unfold m_sum_behind
  refine wpF_of fun K kr kn => ?_
  unfold b_sum_behind
  repeat (first
          | with_reducible refine ws_mSeq ?_
          | with_reducible refine ws_nx ?_
          | with_reducible refine ws_rt ?_
          | with_reducible refine ws_mAsg ?_
          | with_reducible refine ws_mB ?_
          | with_reducible refine ws_mOp ?_
          | with_reducible refine ws_mOpN ?_
          | with_reducible refine ws_mC1 ?_
          | with_reducible refine ws_mC1N ?_
          | with_reducible refine ws_ret ?_
          | with_reducible refine ws_mFz ?_
          | with_reducible refine ws_mTst ?_
          | with_reducible refine ws_mIfS ?_
          | with_reducible refine ws_mIf ?_
          | with_reducible refine ws_mAnd ?_
          | with_reducible refine ws_mOr ?_
          | with_reducible refine ws_mNot ?_
          | with_reducible refine ws_mNext ?_
          | with_reducible refine ws_mRet ?_
          | with_reducible refine ws_mRetN ?_
          | with_reducible refine ws_mRetF ?_
          | with_reducible refine ws_mSl ?_
          | with_reducible refine ws_mSlL ?_
          | with_reducible refine ws_mPart ?_
          | with_reducible refine ws_mNoP ?_
          | with_reducible refine ws_mCons ?_
          | with_reducible refine ws_mNil ?_
          | with_reducible refine ws_mTup ?_
          | with_reducible refine ws_mLst ?_
          | with_reducible refine ws_mSetL ?_
          | with_reducible refine ws_mAugS ?_
          | with_reducible refine ws_mMtE ?_
          | with_reducible refine ws_mCall ?_
          | with_reducible refine ws_mRE ?_
          | with_reducible refine ws_mRN ?_
          | with_reducible refine ws_mAsgN ?_
          | with_reducible refine ws_mIsN ?_
          | with_reducible refine ws_mNeg ?_
          | with_reducible refine ws_mDrop ?_
          | with_reducible refine ws_bk ?_
          | with_reducible refine ws_ct ?_
          | with_reducible refine ws_mFor ?_
          | with_reducible refine fork_ok ?_
          | with_reducible refine ws_mSigns ?_
          | with_reducible refine strk_ok ?_
          | with_reducible refine ws_mSeq1 ?_
          | with_reducible refine ws_mEnum ?_
          | with_reducible refine ws_mRng1 ?_
          | with_reducible refine ws_mLc ?_
          | with_reducible refine ws_mYes ?_
          | with_reducible refine ws_mLeaf ?_
          | with_reducible refine if_t ?_
          | with_reducible refine if_nt ?_
          | with_reducible refine if_nf ?_
          | with_reducible refine if_f ?_
          | with_reducible refine ws_mIsStr ?_
          | with_reducible refine ws_mChain ?_
          | with_reducible refine ws_mS1 ?_
          | with_reducible refine ws_mS1N ?_
          | with_reducible refine ws_mS2N ?_
          | with_reducible refine ws_mMt0 ?_
          | with_reducible refine ws_mMt1 ?_
          | with_reducible refine ws_mMt2 ?_
          | with_reducible refine ws_mPar ?_
          | with_reducible refine ws_mXs_nil ?_
          | with_reducible refine ws_mXs_cons ?_
          | with_reducible refine ws_mXe ?_
          | with_reducible refine ws_mStar ?_
          | with_reducible refine ws_mAndV ?_
          | with_reducible refine ws_mOrV ?_
          | with_reducible refine ws_mNotV ?_
          | with_reducible refine tst_ok ?_
          | with_reducible refine chk_ok rfl ?_
          | with_reducible refine intk_ok ?_
          | ((with_reducible apply ws_mVB); rfl)
          | ((with_reducible apply ws_mV); rfl)
          | ((with_reducible apply ws_mAug); rfl)
          | ((with_reducible apply rngk_ok); (first | assumption | decide | omega))
          | ((with_reducible apply lck_ok); rfl; rfl)
          | ((with_reducible apply ws_tg); rfl)
          | ((with_reducible apply svk_ok); rfl)
          | ((with_reducible apply valk_ok); rfl; (first | assumption | decide | simp [LIM]))
          | ((with_reducible apply lstk_ok); rfl)
          | ((with_reducible apply putk_ok); rfl)
          | ((with_reducible apply andk_ok); rfl)
          | ((with_reducible apply ws_mRetV); rfl)
          | ((with_reducible apply op_any); rfl; rfl; (first | with_reducible exact dMod_ok (by first | assumption | decide) | with_reducible exact dIx_L0 | with_reducible exact dIx_L1 | with_reducible exact dIx_L2 | with_reducible exact dIx_L3 | with_reducible exact dIx_T0 | with_reducible exact dIx_T1 | with_reducible exact dIx_T2 | with_reducible exact dIx_T3 | with_reducible exact dMul_r (by decide) | with_reducible exact dMul_l (by decide) | with_reducible exact dMul_l (hB _) | with_reducible exact dPow_ok (by decide) | with_reducible exact dFdiv_ok (by first | assumption | decide) | with_reducible exact fSet_0 | with_reducible exact fSet_1 | with_reducible exact fSet_2 | with_reducible exact fGet_2 | rfl))
          | ((with_reducible apply opN_any); rfl; rfl; (first | with_reducible exact catL_ok (by first | assumption | decide | (simp only [List.length_cons, List.length_nil, LIM] at *; omega)) | rfl))
          | ((with_reducible apply c1_any); rfl; (first | with_reducible exact ord_sign _ | rfl))
          | ((with_reducible apply optk_ok); rfl)
          | ((with_reducible apply getk_ok); rfl; (first | with_reducible exact dMod_ok (by first | assumption | decide) | with_reducible exact dIx_L0 | with_reducible exact dIx_L1 | with_reducible exact dIx_L2 | with_reducible exact dIx_L3 | with_reducible exact dIx_T0 | with_reducible exact dIx_T1 | with_reducible exact dIx_T2 | with_reducible exact dIx_T3 | with_reducible exact dMul_r (by decide) | with_reducible exact dMul_l (by decide) | with_reducible exact dMul_l (hB _) | with_reducible exact dPow_ok (by decide) | with_reducible exact dFdiv_ok (by first | assumption | decide) | with_reducible exact fSet_0 | with_reducible exact fSet_1 | with_reducible exact fSet_2 | with_reducible exact fGet_2 | rfl))
          | ((with_reducible apply ls_ok); rfl; (first | with_reducible exact dMod_ok (by first | assumption | decide) | with_reducible exact dIx_L0 | with_reducible exact dIx_L1 | with_reducible exact dIx_L2 | with_reducible exact dIx_L3 | with_reducible exact dIx_T0 | with_reducible exact dIx_T1 | with_reducible exact dIx_T2 | with_reducible exact dIx_T3 | with_reducible exact dMul_r (by decide) | with_reducible exact dMul_l (by decide) | with_reducible exact dMul_l (hB _) | with_reducible exact dPow_ok (by decide) | with_reducible exact dFdiv_ok (by first | assumption | decide) | with_reducible exact fSet_0 | with_reducible exact fSet_1 | with_reducible exact fSet_2 | with_reducible exact fGet_2 | rfl))
          | ((with_reducible apply callk_ok); (simp [ownIx]); rfl))
  have go : ∀ (l : List Nat) (a : Int) (s : SV), isPin s = false → ∀ Q : Out → En → Prop, (∀ s', Q .nx [.imm (.int (sumB a l)), .imm (.str x), s']) → Wp (mForL (mgN 2) lb_sum_behind_1 (l.map fun c => .str ⟨#[c]⟩)) [.imm (.int a), .imm (.str x), s] Q := by
    intro l
    induction l with
    | nil => intro a s _ Q q; exact wp_forL_nil.mpr (q s)
    | cons c l ih =>
      intro a s hs Q q
      refine wp_forL_cons.mpr ⟨[.imm (.int a), .imm (.str x), .imm (.str ⟨#[c]⟩)], by simp [mgN, hs], ?_⟩
      unfold lb_sum_behind_1
      repeat (first
              | with_reducible refine ws_mSeq ?_
              | with_reducible refine ws_nx ?_
              | with_reducible refine ws_rt ?_
              | with_reducible refine ws_mAsg ?_
              | with_reducible refine ws_mB ?_
              | with_reducible refine ws_mOp ?_
              | with_reducible refine ws_mOpN ?_
              | with_reducible refine ws_mC1 ?_
              | with_reducible refine ws_mC1N ?_
              | with_reducible refine ws_ret ?_
              | with_reducible refine ws_mFz ?_
              | with_reducible refine ws_mTst ?_
              | with_reducible refine ws_mIfS ?_
              | with_reducible refine ws_mIf ?_
              | with_reducible refine ws_mAnd ?_
              | with_reducible refine ws_mOr ?_
              | with_reducible refine ws_mNot ?_
              | with_reducible refine ws_mNext ?_
              | with_reducible refine ws_mRet ?_
              | with_reducible refine ws_mRetN ?_
              | with_reducible refine ws_mRetF ?_
              | with_reducible refine ws_mSl ?_
              | with_reducible refine ws_mSlL ?_
              | with_reducible refine ws_mPart ?_
              | with_reducible refine ws_mNoP ?_
              | with_reducible refine ws_mCons ?_
              | with_reducible refine ws_mNil ?_
              | with_reducible refine ws_mTup ?_
              | with_reducible refine ws_mLst ?_
              | with_reducible refine ws_mSetL ?_
              | with_reducible refine ws_mAugS ?_
              | with_reducible refine ws_mMtE ?_
              | with_reducible refine ws_mCall ?_
              | with_reducible refine ws_mRE ?_
              | with_reducible refine ws_mRN ?_
              | with_reducible refine ws_mAsgN ?_
              | with_reducible refine ws_mIsN ?_
              | with_reducible refine ws_mNeg ?_
              | with_reducible refine ws_mDrop ?_
              | with_reducible refine ws_bk ?_
              | with_reducible refine ws_ct ?_
              | with_reducible refine ws_mFor ?_
              | with_reducible refine fork_ok ?_
              | with_reducible refine ws_mSigns ?_
              | with_reducible refine strk_ok ?_
              | with_reducible refine ws_mSeq1 ?_
              | with_reducible refine ws_mEnum ?_
              | with_reducible refine ws_mRng1 ?_
              | with_reducible refine ws_mLc ?_
              | with_reducible refine ws_mYes ?_
              | with_reducible refine ws_mLeaf ?_
              | with_reducible refine if_t ?_
              | with_reducible refine if_nt ?_
              | with_reducible refine if_nf ?_
              | with_reducible refine if_f ?_
              | with_reducible refine ws_mIsStr ?_
              | with_reducible refine ws_mChain ?_
              | with_reducible refine ws_mS1 ?_
              | with_reducible refine ws_mS1N ?_
              | with_reducible refine ws_mS2N ?_
              | with_reducible refine ws_mMt0 ?_
              | with_reducible refine ws_mMt1 ?_
              | with_reducible refine ws_mMt2 ?_
              | with_reducible refine ws_mPar ?_
              | with_reducible refine ws_mXs_nil ?_
              | with_reducible refine ws_mXs_cons ?_
              | with_reducible refine ws_mXe ?_
              | with_reducible refine ws_mStar ?_
              | with_reducible refine ws_mAndV ?_
              | with_reducible refine ws_mOrV ?_
              | with_reducible refine ws_mNotV ?_
              | with_reducible refine tst_ok ?_
              | with_reducible refine chk_ok rfl ?_
              | with_reducible refine intk_ok ?_
              | ((with_reducible apply ws_mVB); rfl)
              | ((with_reducible apply ws_mV); rfl)
              | ((with_reducible apply ws_mAug); rfl)
              | ((with_reducible apply rngk_ok); (first | assumption | decide | omega))
              | ((with_reducible apply lck_ok); rfl; rfl)
              | ((with_reducible apply ws_tg); rfl)
              | ((with_reducible apply svk_ok); rfl)
              | ((with_reducible apply valk_ok); rfl; (first | assumption | decide | simp [LIM]))
              | ((with_reducible apply lstk_ok); rfl)
              | ((with_reducible apply putk_ok); rfl)
              | ((with_reducible apply andk_ok); rfl)
              | ((with_reducible apply ws_mRetV); rfl)
              | ((with_reducible apply op_any); rfl; rfl; (first | with_reducible exact dMod_ok (by first | assumption | decide) | with_reducible exact dIx_L0 | with_reducible exact dIx_L1 | with_reducible exact dIx_L2 | with_reducible exact dIx_L3 | with_reducible exact dIx_T0 | with_reducible exact dIx_T1 | with_reducible exact dIx_T2 | with_reducible exact dIx_T3 | with_reducible exact dMul_r (by decide) | with_reducible exact dMul_l (by decide) | with_reducible exact dMul_l (hB _) | with_reducible exact dPow_ok (by decide) | with_reducible exact dFdiv_ok (by first | assumption | decide) | with_reducible exact fSet_0 | with_reducible exact fSet_1 | with_reducible exact fSet_2 | with_reducible exact fGet_2 | rfl))
              | ((with_reducible apply opN_any); rfl; rfl; (first | with_reducible exact catL_ok (by first | assumption | decide | (simp only [List.length_cons, List.length_nil, LIM] at *; omega)) | rfl))
              | ((with_reducible apply c1_any); rfl; (first | with_reducible exact ord_sign _ | rfl))
              | ((with_reducible apply optk_ok); rfl)
              | ((with_reducible apply getk_ok); rfl; (first | with_reducible exact dMod_ok (by first | assumption | decide) | with_reducible exact dIx_L0 | with_reducible exact dIx_L1 | with_reducible exact dIx_L2 | with_reducible exact dIx_L3 | with_reducible exact dIx_T0 | with_reducible exact dIx_T1 | with_reducible exact dIx_T2 | with_reducible exact dIx_T3 | with_reducible exact dMul_r (by decide) | with_reducible exact dMul_l (by decide) | with_reducible exact dMul_l (hB _) | with_reducible exact dPow_ok (by decide) | with_reducible exact dFdiv_ok (by first | assumption | decide) | with_reducible exact fSet_0 | with_reducible exact fSet_1 | with_reducible exact fSet_2 | with_reducible exact fGet_2 | rfl))
              | ((with_reducible apply ls_ok); rfl; (first | with_reducible exact dMod_ok (by first | assumption | decide) | with_reducible exact dIx_L0 | with_reducible exact dIx_L1 | with_reducible exact dIx_L2 | with_reducible exact dIx_L3 | with_reducible exact dIx_T0 | with_reducible exact dIx_T1 | with_reducible exact dIx_T2 | with_reducible exact dIx_T3 | with_reducible exact dMul_r (by decide) | with_reducible exact dMul_l (by decide) | with_reducible exact dMul_l (hB _) | with_reducible exact dPow_ok (by decide) | with_reducible exact dFdiv_ok (by first | assumption | decide) | with_reducible exact fSet_0 | with_reducible exact fSet_1 | with_reducible exact fSet_2 | with_reducible exact fGet_2 | rfl))
              | ((with_reducible apply callk_ok); (simp [ownIx]); rfl))
      refine after_nx ?_
      refine ih _ _ rfl Q fun s' => ?_
      have e : a * 97 + (c : Int) - 32 + 1 = a * 97 + (c : Int) - 31 := by omega
      rw [e]
      exact q s'
  refine go _ _ _ rfl _ fun s' => ?_
  repeat (first
          | with_reducible refine ws_mSeq ?_
          | with_reducible refine ws_nx ?_
          | with_reducible refine ws_rt ?_
          | with_reducible refine ws_mAsg ?_
          | with_reducible refine ws_mB ?_
          | with_reducible refine ws_mOp ?_
          | with_reducible refine ws_mOpN ?_
          | with_reducible refine ws_mC1 ?_
          | with_reducible refine ws_mC1N ?_
          | with_reducible refine ws_ret ?_
          | with_reducible refine ws_mFz ?_
          | with_reducible refine ws_mTst ?_
          | with_reducible refine ws_mIfS ?_
          | with_reducible refine ws_mIf ?_
          | with_reducible refine ws_mAnd ?_
          | with_reducible refine ws_mOr ?_
          | with_reducible refine ws_mNot ?_
          | with_reducible refine ws_mNext ?_
          | with_reducible refine ws_mRet ?_
          | with_reducible refine ws_mRetN ?_
          | with_reducible refine ws_mRetF ?_
          | with_reducible refine ws_mSl ?_
          | with_reducible refine ws_mSlL ?_
          | with_reducible refine ws_mPart ?_
          | with_reducible refine ws_mNoP ?_
          | with_reducible refine ws_mCons ?_
          | with_reducible refine ws_mNil ?_
          | with_reducible refine ws_mTup ?_
          | with_reducible refine ws_mLst ?_
          | with_reducible refine ws_mSetL ?_
          | with_reducible refine ws_mAugS ?_
          | with_reducible refine ws_mMtE ?_
          | with_reducible refine ws_mCall ?_
          | with_reducible refine ws_mRE ?_
          | with_reducible refine ws_mRN ?_
          | with_reducible refine ws_mAsgN ?_
          | with_reducible refine ws_mIsN ?_
          | with_reducible refine ws_mNeg ?_
          | with_reducible refine ws_mDrop ?_
          | with_reducible refine ws_bk ?_
          | with_reducible refine ws_ct ?_
          | with_reducible refine ws_mFor ?_
          | with_reducible refine fork_ok ?_
          | with_reducible refine ws_mSigns ?_
          | with_reducible refine strk_ok ?_
          | with_reducible refine ws_mSeq1 ?_
          | with_reducible refine ws_mEnum ?_
          | with_reducible refine ws_mRng1 ?_
          | with_reducible refine ws_mLc ?_
          | with_reducible refine ws_mYes ?_
          | with_reducible refine ws_mLeaf ?_
          | with_reducible refine if_t ?_
          | with_reducible refine if_nt ?_
          | with_reducible refine if_nf ?_
          | with_reducible refine if_f ?_
          | with_reducible refine ws_mIsStr ?_
          | with_reducible refine ws_mChain ?_
          | with_reducible refine ws_mS1 ?_
          | with_reducible refine ws_mS1N ?_
          | with_reducible refine ws_mS2N ?_
          | with_reducible refine ws_mMt0 ?_
          | with_reducible refine ws_mMt1 ?_
          | with_reducible refine ws_mMt2 ?_
          | with_reducible refine ws_mPar ?_
          | with_reducible refine ws_mXs_nil ?_
          | with_reducible refine ws_mXs_cons ?_
          | with_reducible refine ws_mXe ?_
          | with_reducible refine ws_mStar ?_
          | with_reducible refine ws_mAndV ?_
          | with_reducible refine ws_mOrV ?_
          | with_reducible refine ws_mNotV ?_
          | with_reducible refine tst_ok ?_
          | with_reducible refine chk_ok rfl ?_
          | with_reducible refine intk_ok ?_
          | ((with_reducible apply ws_mVB); rfl)
          | ((with_reducible apply ws_mV); rfl)
          | ((with_reducible apply ws_mAug); rfl)
          | ((with_reducible apply rngk_ok); (first | assumption | decide | omega))
          | ((with_reducible apply lck_ok); rfl; rfl)
          | ((with_reducible apply ws_tg); rfl)
          | ((with_reducible apply svk_ok); rfl)
          | ((with_reducible apply valk_ok); rfl; (first | assumption | decide | simp [LIM]))
          | ((with_reducible apply lstk_ok); rfl)
          | ((with_reducible apply putk_ok); rfl)
          | ((with_reducible apply andk_ok); rfl)
          | ((with_reducible apply ws_mRetV); rfl)
          | ((with_reducible apply op_any); rfl; rfl; (first | with_reducible exact dMod_ok (by first | assumption | decide) | with_reducible exact dIx_L0 | with_reducible exact dIx_L1 | with_reducible exact dIx_L2 | with_reducible exact dIx_L3 | with_reducible exact dIx_T0 | with_reducible exact dIx_T1 | with_reducible exact dIx_T2 | with_reducible exact dIx_T3 | with_reducible exact dMul_r (by decide) | with_reducible exact dMul_l (by decide) | with_reducible exact dMul_l (hB _) | with_reducible exact dPow_ok (by decide) | with_reducible exact dFdiv_ok (by first | assumption | decide) | with_reducible exact fSet_0 | with_reducible exact fSet_1 | with_reducible exact fSet_2 | with_reducible exact fGet_2 | rfl))
          | ((with_reducible apply opN_any); rfl; rfl; (first | with_reducible exact catL_ok (by first | assumption | decide | (simp only [List.length_cons, List.length_nil, LIM] at *; omega)) | rfl))
          | ((with_reducible apply c1_any); rfl; (first | with_reducible exact ord_sign _ | rfl))
          | ((with_reducible apply optk_ok); rfl)
          | ((with_reducible apply getk_ok); rfl; (first | with_reducible exact dMod_ok (by first | assumption | decide) | with_reducible exact dIx_L0 | with_reducible exact dIx_L1 | with_reducible exact dIx_L2 | with_reducible exact dIx_L3 | with_reducible exact dIx_T0 | with_reducible exact dIx_T1 | with_reducible exact dIx_T2 | with_reducible exact dIx_T3 | with_reducible exact dMul_r (by decide) | with_reducible exact dMul_l (by decide) | with_reducible exact dMul_l (hB _) | with_reducible exact dPow_ok (by decide) | with_reducible exact dFdiv_ok (by first | assumption | decide) | with_reducible exact fSet_0 | with_reducible exact fSet_1 | with_reducible exact fSet_2 | with_reducible exact fGet_2 | rfl))
          | ((with_reducible apply ls_ok); rfl; (first | with_reducible exact dMod_ok (by first | assumption | decide) | with_reducible exact dIx_L0 | with_reducible exact dIx_L1 | with_reducible exact dIx_L2 | with_reducible exact dIx_L3 | with_reducible exact dIx_T0 | with_reducible exact dIx_T1 | with_reducible exact dIx_T2 | with_reducible exact dIx_T3 | with_reducible exact dMul_r (by decide) | with_reducible exact dMul_l (by decide) | with_reducible exact dMul_l (hB _) | with_reducible exact dPow_ok (by decide) | with_reducible exact dFdiv_ok (by first | assumption | decide) | with_reducible exact fSet_0 | with_reducible exact fSet_1 | with_reducible exact fSet_2 | with_reducible exact fGet_2 | rfl))
          | ((with_reducible apply callk_ok); (simp [ownIx]); rfl))
  exact kr _ _ ⟨rfl, rfl⟩
theorem lsum_ok (a : Int) (x : Str) : WpF m__law_sum_behind [.imm (.int a), .imm (.str x)] fun r out => r = .val (.int (sumB a (tl x))) ∧ out = [.imm (.int a), .imm (.str x)] := by
  unfold m__law_sum_behind
  refine wpF_of fun K kr kn => ?_
  unfold b__law_sum_behind
  repeat (first
          | with_reducible refine ws_mSeq ?_
          | with_reducible refine ws_nx ?_
          | with_reducible refine ws_rt ?_
          | with_reducible refine ws_mAsg ?_
          | with_reducible refine ws_mB ?_
          | with_reducible refine ws_mOp ?_
          | with_reducible refine ws_mOpN ?_
          | with_reducible refine ws_mC1 ?_
          | with_reducible refine ws_mC1N ?_
          | with_reducible refine ws_ret ?_
          | with_reducible refine ws_mFz ?_
          | with_reducible refine ws_mTst ?_
          | with_reducible refine ws_mIfS ?_
          | with_reducible refine ws_mIf ?_
          | with_reducible refine ws_mAnd ?_
          | with_reducible refine ws_mOr ?_
          | with_reducible refine ws_mNot ?_
          | with_reducible refine ws_mNext ?_
          | with_reducible refine ws_mRet ?_
          | with_reducible refine ws_mRetN ?_
          | with_reducible refine ws_mRetF ?_
          | with_reducible refine ws_mSl ?_
          | with_reducible refine ws_mSlL ?_
          | with_reducible refine ws_mPart ?_
          | with_reducible refine ws_mNoP ?_
          | with_reducible refine ws_mCons ?_
          | with_reducible refine ws_mNil ?_
          | with_reducible refine ws_mTup ?_
          | with_reducible refine ws_mLst ?_
          | with_reducible refine ws_mSetL ?_
          | with_reducible refine ws_mAugS ?_
          | with_reducible refine ws_mMtE ?_
          | with_reducible refine ws_mCall ?_
          | with_reducible refine ws_mRE ?_
          | with_reducible refine ws_mRN ?_
          | with_reducible refine ws_mAsgN ?_
          | with_reducible refine ws_mIsN ?_
          | with_reducible refine ws_mNeg ?_
          | with_reducible refine ws_mDrop ?_
          | with_reducible refine ws_bk ?_
          | with_reducible refine ws_ct ?_
          | with_reducible refine ws_mFor ?_
          | with_reducible refine fork_ok ?_
          | with_reducible refine ws_mSigns ?_
          | with_reducible refine strk_ok ?_
          | with_reducible refine ws_mSeq1 ?_
          | with_reducible refine ws_mEnum ?_
          | with_reducible refine ws_mRng1 ?_
          | with_reducible refine ws_mLc ?_
          | with_reducible refine ws_mYes ?_
          | with_reducible refine ws_mLeaf ?_
          | with_reducible refine if_t ?_
          | with_reducible refine if_nt ?_
          | with_reducible refine if_nf ?_
          | with_reducible refine if_f ?_
          | with_reducible refine ws_mIsStr ?_
          | with_reducible refine ws_mChain ?_
          | with_reducible refine ws_mS1 ?_
          | with_reducible refine ws_mS1N ?_
          | with_reducible refine ws_mS2N ?_
          | with_reducible refine ws_mMt0 ?_
          | with_reducible refine ws_mMt1 ?_
          | with_reducible refine ws_mMt2 ?_
          | with_reducible refine ws_mPar ?_
          | with_reducible refine ws_mXs_nil ?_
          | with_reducible refine ws_mXs_cons ?_
          | with_reducible refine ws_mXe ?_
          | with_reducible refine ws_mStar ?_
          | with_reducible refine ws_mAndV ?_
          | with_reducible refine ws_mOrV ?_
          | with_reducible refine ws_mNotV ?_
          | with_reducible refine tst_ok ?_
          | with_reducible refine chk_ok rfl ?_
          | with_reducible refine intk_ok ?_
          | ((with_reducible apply ws_mVB); rfl)
          | ((with_reducible apply ws_mV); rfl)
          | ((with_reducible apply ws_mAug); rfl)
          | ((with_reducible apply rngk_ok); (first | assumption | decide | omega))
          | ((with_reducible apply lck_ok); rfl; rfl)
          | ((with_reducible apply ws_tg); rfl)
          | ((with_reducible apply svk_ok); rfl)
          | ((with_reducible apply valk_ok); rfl; (first | assumption | decide | simp [LIM]))
          | ((with_reducible apply lstk_ok); rfl)
          | ((with_reducible apply putk_ok); rfl)
          | ((with_reducible apply andk_ok); rfl)
          | ((with_reducible apply ws_mRetV); rfl)
          | ((with_reducible apply op_any); rfl; rfl; (first | with_reducible exact dMod_ok (by first | assumption | decide) | with_reducible exact dIx_L0 | with_reducible exact dIx_L1 | with_reducible exact dIx_L2 | with_reducible exact dIx_L3 | with_reducible exact dIx_T0 | with_reducible exact dIx_T1 | with_reducible exact dIx_T2 | with_reducible exact dIx_T3 | with_reducible exact dMul_r (by decide) | with_reducible exact dMul_l (by decide) | with_reducible exact dMul_l (hB _) | with_reducible exact dPow_ok (by decide) | with_reducible exact dFdiv_ok (by first | assumption | decide) | with_reducible exact fSet_0 | with_reducible exact fSet_1 | with_reducible exact fSet_2 | with_reducible exact fGet_2 | rfl))
          | ((with_reducible apply opN_any); rfl; rfl; (first | with_reducible exact catL_ok (by first | assumption | decide | (simp only [List.length_cons, List.length_nil, LIM] at *; omega)) | rfl))
          | ((with_reducible apply c1_any); rfl; (first | with_reducible exact ord_sign _ | rfl))
          | ((with_reducible apply optk_ok); rfl)
          | ((with_reducible apply getk_ok); rfl; (first | with_reducible exact dMod_ok (by first | assumption | decide) | with_reducible exact dIx_L0 | with_reducible exact dIx_L1 | with_reducible exact dIx_L2 | with_reducible exact dIx_L3 | with_reducible exact dIx_T0 | with_reducible exact dIx_T1 | with_reducible exact dIx_T2 | with_reducible exact dIx_T3 | with_reducible exact dMul_r (by decide) | with_reducible exact dMul_l (by decide) | with_reducible exact dMul_l (hB _) | with_reducible exact dPow_ok (by decide) | with_reducible exact dFdiv_ok (by first | assumption | decide) | with_reducible exact fSet_0 | with_reducible exact fSet_1 | with_reducible exact fSet_2 | with_reducible exact fGet_2 | rfl))
          | ((with_reducible apply ls_ok); rfl; (first | with_reducible exact dMod_ok (by first | assumption | decide) | with_reducible exact dIx_L0 | with_reducible exact dIx_L1 | with_reducible exact dIx_L2 | with_reducible exact dIx_L3 | with_reducible exact dIx_T0 | with_reducible exact dIx_T1 | with_reducible exact dIx_T2 | with_reducible exact dIx_T3 | with_reducible exact dMul_r (by decide) | with_reducible exact dMul_l (by decide) | with_reducible exact dMul_l (hB _) | with_reducible exact dPow_ok (by decide) | with_reducible exact dFdiv_ok (by first | assumption | decide) | with_reducible exact fSet_0 | with_reducible exact fSet_1 | with_reducible exact fSet_2 | with_reducible exact fGet_2 | rfl))
          | ((with_reducible apply callk_ok); (simp [ownIx]); rfl))
  have go : ∀ (l : List Nat) (a : Int) (s : SV), isPin s = false → ∀ Q : Out → En → Prop, (∀ s', Q .nx [.imm (.int (sumB a l)), .imm (.str x), s']) → Wp (mForL (mgN 2) lb__law_sum_behind_1 (l.map fun c => .str ⟨#[c]⟩)) [.imm (.int a), .imm (.str x), s] Q := by
    intro l
    induction l with
    | nil => intro a s _ Q q; exact wp_forL_nil.mpr (q s)
    | cons c l ih =>
      intro a s hs Q q
      refine wp_forL_cons.mpr ⟨[.imm (.int a), .imm (.str x), .imm (.str ⟨#[c]⟩)], by simp [mgN, hs], ?_⟩
      unfold lb__law_sum_behind_1
      repeat (first
              | with_reducible refine ws_mSeq ?_
              | with_reducible refine ws_nx ?_
              | with_reducible refine ws_rt ?_
              | with_reducible refine ws_mAsg ?_
              | with_reducible refine ws_mB ?_
              | with_reducible refine ws_mOp ?_
              | with_reducible refine ws_mOpN ?_
              | with_reducible refine ws_mC1 ?_
              | with_reducible refine ws_mC1N ?_
              | with_reducible refine ws_ret ?_
              | with_reducible refine ws_mFz ?_
              | with_reducible refine ws_mTst ?_
              | with_reducible refine ws_mIfS ?_
              | with_reducible refine ws_mIf ?_
              | with_reducible refine ws_mAnd ?_
              | with_reducible refine ws_mOr ?_
              | with_reducible refine ws_mNot ?_
              | with_reducible refine ws_mNext ?_
              | with_reducible refine ws_mRet ?_
              | with_reducible refine ws_mRetN ?_
              | with_reducible refine ws_mRetF ?_
              | with_reducible refine ws_mSl ?_
              | with_reducible refine ws_mSlL ?_
              | with_reducible refine ws_mPart ?_
              | with_reducible refine ws_mNoP ?_
              | with_reducible refine ws_mCons ?_
              | with_reducible refine ws_mNil ?_
              | with_reducible refine ws_mTup ?_
              | with_reducible refine ws_mLst ?_
              | with_reducible refine ws_mSetL ?_
              | with_reducible refine ws_mAugS ?_
              | with_reducible refine ws_mMtE ?_
              | with_reducible refine ws_mCall ?_
              | with_reducible refine ws_mRE ?_
              | with_reducible refine ws_mRN ?_
              | with_reducible refine ws_mAsgN ?_
              | with_reducible refine ws_mIsN ?_
              | with_reducible refine ws_mNeg ?_
              | with_reducible refine ws_mDrop ?_
              | with_reducible refine ws_bk ?_
              | with_reducible refine ws_ct ?_
              | with_reducible refine ws_mFor ?_
              | with_reducible refine fork_ok ?_
              | with_reducible refine ws_mSigns ?_
              | with_reducible refine strk_ok ?_
              | with_reducible refine ws_mSeq1 ?_
              | with_reducible refine ws_mEnum ?_
              | with_reducible refine ws_mRng1 ?_
              | with_reducible refine ws_mLc ?_
              | with_reducible refine ws_mYes ?_
              | with_reducible refine ws_mLeaf ?_
              | with_reducible refine if_t ?_
              | with_reducible refine if_nt ?_
              | with_reducible refine if_nf ?_
              | with_reducible refine if_f ?_
              | with_reducible refine ws_mIsStr ?_
              | with_reducible refine ws_mChain ?_
              | with_reducible refine ws_mS1 ?_
              | with_reducible refine ws_mS1N ?_
              | with_reducible refine ws_mS2N ?_
              | with_reducible refine ws_mMt0 ?_
              | with_reducible refine ws_mMt1 ?_
              | with_reducible refine ws_mMt2 ?_
              | with_reducible refine ws_mPar ?_
              | with_reducible refine ws_mXs_nil ?_
              | with_reducible refine ws_mXs_cons ?_
              | with_reducible refine ws_mXe ?_
              | with_reducible refine ws_mStar ?_
              | with_reducible refine ws_mAndV ?_
              | with_reducible refine ws_mOrV ?_
              | with_reducible refine ws_mNotV ?_
              | with_reducible refine tst_ok ?_
              | with_reducible refine chk_ok rfl ?_
              | with_reducible refine intk_ok ?_
              | ((with_reducible apply ws_mVB); rfl)
              | ((with_reducible apply ws_mV); rfl)
              | ((with_reducible apply ws_mAug); rfl)
              | ((with_reducible apply rngk_ok); (first | assumption | decide | omega))
              | ((with_reducible apply lck_ok); rfl; rfl)
              | ((with_reducible apply ws_tg); rfl)
              | ((with_reducible apply svk_ok); rfl)
              | ((with_reducible apply valk_ok); rfl; (first | assumption | decide | simp [LIM]))
              | ((with_reducible apply lstk_ok); rfl)
              | ((with_reducible apply putk_ok); rfl)
              | ((with_reducible apply andk_ok); rfl)
              | ((with_reducible apply ws_mRetV); rfl)
              | ((with_reducible apply op_any); rfl; rfl; (first | with_reducible exact dMod_ok (by first | assumption | decide) | with_reducible exact dIx_L0 | with_reducible exact dIx_L1 | with_reducible exact dIx_L2 | with_reducible exact dIx_L3 | with_reducible exact dIx_T0 | with_reducible exact dIx_T1 | with_reducible exact dIx_T2 | with_reducible exact dIx_T3 | with_reducible exact dMul_r (by decide) | with_reducible exact dMul_l (by decide) | with_reducible exact dMul_l (hB _) | with_reducible exact dPow_ok (by decide) | with_reducible exact dFdiv_ok (by first | assumption | decide) | with_reducible exact fSet_0 | with_reducible exact fSet_1 | with_reducible exact fSet_2 | with_reducible exact fGet_2 | rfl))
              | ((with_reducible apply opN_any); rfl; rfl; (first | with_reducible exact catL_ok (by first | assumption | decide | (simp only [List.length_cons, List.length_nil, LIM] at *; omega)) | rfl))
              | ((with_reducible apply c1_any); rfl; (first | with_reducible exact ord_sign _ | rfl))
              | ((with_reducible apply optk_ok); rfl)
              | ((with_reducible apply getk_ok); rfl; (first | with_reducible exact dMod_ok (by first | assumption | decide) | with_reducible exact dIx_L0 | with_reducible exact dIx_L1 | with_reducible exact dIx_L2 | with_reducible exact dIx_L3 | with_reducible exact dIx_T0 | with_reducible exact dIx_T1 | with_reducible exact dIx_T2 | with_reducible exact dIx_T3 | with_reducible exact dMul_r (by decide) | with_reducible exact dMul_l (by decide) | with_reducible exact dMul_l (hB _) | with_reducible exact dPow_ok (by decide) | with_reducible exact dFdiv_ok (by first | assumption | decide) | with_reducible exact fSet_0 | with_reducible exact fSet_1 | with_reducible exact fSet_2 | with_reducible exact fGet_2 | rfl))
              | ((with_reducible apply ls_ok); rfl; (first | with_reducible exact dMod_ok (by first | assumption | decide) | with_reducible exact dIx_L0 | with_reducible exact dIx_L1 | with_reducible exact dIx_L2 | with_reducible exact dIx_L3 | with_reducible exact dIx_T0 | with_reducible exact dIx_T1 | with_reducible exact dIx_T2 | with_reducible exact dIx_T3 | with_reducible exact dMul_r (by decide) | with_reducible exact dMul_l (by decide) | with_reducible exact dMul_l (hB _) | with_reducible exact dPow_ok (by decide) | with_reducible exact dFdiv_ok (by first | assumption | decide) | with_reducible exact fSet_0 | with_reducible exact fSet_1 | with_reducible exact fSet_2 | with_reducible exact fGet_2 | rfl))
              | ((with_reducible apply callk_ok); (simp [ownIx]); rfl))
      refine after_nx ?_
      exact ih _ _ rfl Q fun s' => q s'
  refine go _ _ _ rfl _ fun s' => ?_
  repeat (first
          | with_reducible refine ws_mSeq ?_
          | with_reducible refine ws_nx ?_
          | with_reducible refine ws_rt ?_
          | with_reducible refine ws_mAsg ?_
          | with_reducible refine ws_mB ?_
          | with_reducible refine ws_mOp ?_
          | with_reducible refine ws_mOpN ?_
          | with_reducible refine ws_mC1 ?_
          | with_reducible refine ws_mC1N ?_
          | with_reducible refine ws_ret ?_
          | with_reducible refine ws_mFz ?_
          | with_reducible refine ws_mTst ?_
          | with_reducible refine ws_mIfS ?_
          | with_reducible refine ws_mIf ?_
          | with_reducible refine ws_mAnd ?_
          | with_reducible refine ws_mOr ?_
          | with_reducible refine ws_mNot ?_
          | with_reducible refine ws_mNext ?_
          | with_reducible refine ws_mRet ?_
          | with_reducible refine ws_mRetN ?_
          | with_reducible refine ws_mRetF ?_
          | with_reducible refine ws_mSl ?_
          | with_reducible refine ws_mSlL ?_
          | with_reducible refine ws_mPart ?_
          | with_reducible refine ws_mNoP ?_
          | with_reducible refine ws_mCons ?_
          | with_reducible refine ws_mNil ?_
          | with_reducible refine ws_mTup ?_
          | with_reducible refine ws_mLst ?_
          | with_reducible refine ws_mSetL ?_
          | with_reducible refine ws_mAugS ?_
          | with_reducible refine ws_mMtE ?_
          | with_reducible refine ws_mCall ?_
          | with_reducible refine ws_mRE ?_
          | with_reducible refine ws_mRN ?_
          | with_reducible refine ws_mAsgN ?_
          | with_reducible refine ws_mIsN ?_
          | with_reducible refine ws_mNeg ?_
          | with_reducible refine ws_mDrop ?_
          | with_reducible refine ws_bk ?_
          | with_reducible refine ws_ct ?_
          | with_reducible refine ws_mFor ?_
          | with_reducible refine fork_ok ?_
          | with_reducible refine ws_mSigns ?_
          | with_reducible refine strk_ok ?_
          | with_reducible refine ws_mSeq1 ?_
          | with_reducible refine ws_mEnum ?_
          | with_reducible refine ws_mRng1 ?_
          | with_reducible refine ws_mLc ?_
          | with_reducible refine ws_mYes ?_
          | with_reducible refine ws_mLeaf ?_
          | with_reducible refine if_t ?_
          | with_reducible refine if_nt ?_
          | with_reducible refine if_nf ?_
          | with_reducible refine if_f ?_
          | with_reducible refine ws_mIsStr ?_
          | with_reducible refine ws_mChain ?_
          | with_reducible refine ws_mS1 ?_
          | with_reducible refine ws_mS1N ?_
          | with_reducible refine ws_mS2N ?_
          | with_reducible refine ws_mMt0 ?_
          | with_reducible refine ws_mMt1 ?_
          | with_reducible refine ws_mMt2 ?_
          | with_reducible refine ws_mPar ?_
          | with_reducible refine ws_mXs_nil ?_
          | with_reducible refine ws_mXs_cons ?_
          | with_reducible refine ws_mXe ?_
          | with_reducible refine ws_mStar ?_
          | with_reducible refine ws_mAndV ?_
          | with_reducible refine ws_mOrV ?_
          | with_reducible refine ws_mNotV ?_
          | with_reducible refine tst_ok ?_
          | with_reducible refine chk_ok rfl ?_
          | with_reducible refine intk_ok ?_
          | ((with_reducible apply ws_mVB); rfl)
          | ((with_reducible apply ws_mV); rfl)
          | ((with_reducible apply ws_mAug); rfl)
          | ((with_reducible apply rngk_ok); (first | assumption | decide | omega))
          | ((with_reducible apply lck_ok); rfl; rfl)
          | ((with_reducible apply ws_tg); rfl)
          | ((with_reducible apply svk_ok); rfl)
          | ((with_reducible apply valk_ok); rfl; (first | assumption | decide | simp [LIM]))
          | ((with_reducible apply lstk_ok); rfl)
          | ((with_reducible apply putk_ok); rfl)
          | ((with_reducible apply andk_ok); rfl)
          | ((with_reducible apply ws_mRetV); rfl)
          | ((with_reducible apply op_any); rfl; rfl; (first | with_reducible exact dMod_ok (by first | assumption | decide) | with_reducible exact dIx_L0 | with_reducible exact dIx_L1 | with_reducible exact dIx_L2 | with_reducible exact dIx_L3 | with_reducible exact dIx_T0 | with_reducible exact dIx_T1 | with_reducible exact dIx_T2 | with_reducible exact dIx_T3 | with_reducible exact dMul_r (by decide) | with_reducible exact dMul_l (by decide) | with_reducible exact dMul_l (hB _) | with_reducible exact dPow_ok (by decide) | with_reducible exact dFdiv_ok (by first | assumption | decide) | with_reducible exact fSet_0 | with_reducible exact fSet_1 | with_reducible exact fSet_2 | with_reducible exact fGet_2 | rfl))
          | ((with_reducible apply opN_any); rfl; rfl; (first | with_reducible exact catL_ok (by first | assumption | decide | (simp only [List.length_cons, List.length_nil, LIM] at *; omega)) | rfl))
          | ((with_reducible apply c1_any); rfl; (first | with_reducible exact ord_sign _ | rfl))
          | ((with_reducible apply optk_ok); rfl)
          | ((with_reducible apply getk_ok); rfl; (first | with_reducible exact dMod_ok (by first | assumption | decide) | with_reducible exact dIx_L0 | with_reducible exact dIx_L1 | with_reducible exact dIx_L2 | with_reducible exact dIx_L3 | with_reducible exact dIx_T0 | with_reducible exact dIx_T1 | with_reducible exact dIx_T2 | with_reducible exact dIx_T3 | with_reducible exact dMul_r (by decide) | with_reducible exact dMul_l (by decide) | with_reducible exact dMul_l (hB _) | with_reducible exact dPow_ok (by decide) | with_reducible exact dFdiv_ok (by first | assumption | decide) | with_reducible exact fSet_0 | with_reducible exact fSet_1 | with_reducible exact fSet_2 | with_reducible exact fGet_2 | rfl))
          | ((with_reducible apply ls_ok); rfl; (first | with_reducible exact dMod_ok (by first | assumption | decide) | with_reducible exact dIx_L0 | with_reducible exact dIx_L1 | with_reducible exact dIx_L2 | with_reducible exact dIx_L3 | with_reducible exact dIx_T0 | with_reducible exact dIx_T1 | with_reducible exact dIx_T2 | with_reducible exact dIx_T3 | with_reducible exact dMul_r (by decide) | with_reducible exact dMul_l (by decide) | with_reducible exact dMul_l (hB _) | with_reducible exact dPow_ok (by decide) | with_reducible exact dFdiv_ok (by first | assumption | decide) | with_reducible exact fSet_0 | with_reducible exact fSet_1 | with_reducible exact fSet_2 | with_reducible exact fGet_2 | rfl))
          | ((with_reducible apply callk_ok); (simp [ownIx]); rfl))
  exact kr _ _ ⟨rfl, rfl⟩
/-! ### drawing -/
theorem len_ok {ds : List Dt} : dLen (.list ds) = some (.int (ds.length : Int)) := rfl
theorem some_ok {bag ds : List Dt} (h : Bag bag) (h0 : ds ≠ []) (h1 : ds.length < 1073741824) : WpF m__law_some [.lst true bag, .imm (.list ds)] fun r out => ∃ d bag', r = .val d ∧ d ∈ ds ∧ out = [.lst true bag', .imm (.list ds)] ∧ Bag bag' := by
  unfold m__law_some
  refine wpF_of fun K kr kn => ?_
  unfold b__law_some
  have hp : 0 < ds.length := List.length_pos_iff.mpr h0
  repeat (first
          | with_reducible refine ws_mSeq ?_
          | with_reducible refine ws_nx ?_
          | with_reducible refine ws_rt ?_
          | with_reducible refine ws_mAsg ?_
          | with_reducible refine ws_mB ?_
          | with_reducible refine ws_mOp ?_
          | with_reducible refine ws_mOpN ?_
          | with_reducible refine ws_mC1 ?_
          | with_reducible refine ws_mC1N ?_
          | with_reducible refine ws_ret ?_
          | with_reducible refine ws_mFz ?_
          | with_reducible refine ws_mTst ?_
          | with_reducible refine ws_mIfS ?_
          | with_reducible refine ws_mIf ?_
          | with_reducible refine ws_mAnd ?_
          | with_reducible refine ws_mOr ?_
          | with_reducible refine ws_mNot ?_
          | with_reducible refine ws_mNext ?_
          | with_reducible refine ws_mRet ?_
          | with_reducible refine ws_mRetN ?_
          | with_reducible refine ws_mRetF ?_
          | with_reducible refine ws_mSl ?_
          | with_reducible refine ws_mSlL ?_
          | with_reducible refine ws_mPart ?_
          | with_reducible refine ws_mNoP ?_
          | with_reducible refine ws_mCons ?_
          | with_reducible refine ws_mNil ?_
          | with_reducible refine ws_mTup ?_
          | with_reducible refine ws_mLst ?_
          | with_reducible refine ws_mSetL ?_
          | with_reducible refine ws_mAugS ?_
          | with_reducible refine ws_mMtE ?_
          | with_reducible refine ws_mCall ?_
          | with_reducible refine ws_mRE ?_
          | with_reducible refine ws_mRN ?_
          | with_reducible refine ws_mAsgN ?_
          | with_reducible refine ws_mIsN ?_
          | with_reducible refine ws_mNeg ?_
          | with_reducible refine ws_mDrop ?_
          | with_reducible refine ws_bk ?_
          | with_reducible refine ws_ct ?_
          | with_reducible refine ws_mFor ?_
          | with_reducible refine fork_ok ?_
          | with_reducible refine ws_mSigns ?_
          | with_reducible refine strk_ok ?_
          | with_reducible refine ws_mSeq1 ?_
          | with_reducible refine ws_mEnum ?_
          | with_reducible refine ws_mRng1 ?_
          | with_reducible refine ws_mLc ?_
          | with_reducible refine ws_mYes ?_
          | with_reducible refine ws_mLeaf ?_
          | with_reducible refine if_t ?_
          | with_reducible refine if_nt ?_
          | with_reducible refine if_nf ?_
          | with_reducible refine if_f ?_
          | with_reducible refine ws_mIsStr ?_
          | with_reducible refine ws_mChain ?_
          | with_reducible refine ws_mS1 ?_
          | with_reducible refine ws_mS1N ?_
          | with_reducible refine ws_mS2N ?_
          | with_reducible refine ws_mMt0 ?_
          | with_reducible refine ws_mMt1 ?_
          | with_reducible refine ws_mMt2 ?_
          | with_reducible refine ws_mPar ?_
          | with_reducible refine ws_mXs_nil ?_
          | with_reducible refine ws_mXs_cons ?_
          | with_reducible refine ws_mXe ?_
          | with_reducible refine ws_mStar ?_
          | with_reducible refine ws_mAndV ?_
          | with_reducible refine ws_mOrV ?_
          | with_reducible refine ws_mNotV ?_
          | with_reducible refine tst_ok ?_
          | with_reducible refine chk_ok rfl ?_
          | with_reducible refine intk_ok ?_
          | ((with_reducible apply ws_mVB); rfl)
          | ((with_reducible apply ws_mV); rfl)
          | ((with_reducible apply ws_mAug); rfl)
          | ((with_reducible apply rngk_ok); (first | assumption | decide | omega))
          | ((with_reducible apply lck_ok); rfl; rfl)
          | ((with_reducible apply ws_tg); rfl)
          | ((with_reducible apply svk_ok); rfl)
          | ((with_reducible apply valk_ok); rfl; (first | assumption | decide | simp [LIM]))
          | ((with_reducible apply lstk_ok); rfl)
          | ((with_reducible apply putk_ok); rfl)
          | ((with_reducible apply andk_ok); rfl)
          | ((with_reducible apply ws_mRetV); rfl)
          | ((with_reducible apply op_any); rfl; rfl; (first | with_reducible exact dMod_ok (by first | assumption | decide) | with_reducible exact dIx_L0 | with_reducible exact dIx_L1 | with_reducible exact dIx_L2 | with_reducible exact dIx_L3 | with_reducible exact dIx_T0 | with_reducible exact dIx_T1 | with_reducible exact dIx_T2 | with_reducible exact dIx_T3 | with_reducible exact dMul_r (by decide) | with_reducible exact dMul_l (by decide) | with_reducible exact dMul_l (hB _) | with_reducible exact dPow_ok (by decide) | with_reducible exact dFdiv_ok (by first | assumption | decide) | with_reducible exact fSet_0 | with_reducible exact fSet_1 | with_reducible exact fSet_2 | with_reducible exact fGet_2 | rfl))
          | ((with_reducible apply opN_any); rfl; rfl; (first | with_reducible exact catL_ok (by first | assumption | decide | (simp only [List.length_cons, List.length_nil, LIM] at *; omega)) | rfl))
          | ((with_reducible apply c1_any); rfl; (first | with_reducible exact ord_sign _ | rfl))
          | ((with_reducible apply optk_ok); rfl)
          | ((with_reducible apply getk_ok); rfl; (first | with_reducible exact dMod_ok (by first | assumption | decide) | with_reducible exact dIx_L0 | with_reducible exact dIx_L1 | with_reducible exact dIx_L2 | with_reducible exact dIx_L3 | with_reducible exact dIx_T0 | with_reducible exact dIx_T1 | with_reducible exact dIx_T2 | with_reducible exact dIx_T3 | with_reducible exact dMul_r (by decide) | with_reducible exact dMul_l (by decide) | with_reducible exact dMul_l (hB _) | with_reducible exact dPow_ok (by decide) | with_reducible exact dFdiv_ok (by first | assumption | decide) | with_reducible exact fSet_0 | with_reducible exact fSet_1 | with_reducible exact fSet_2 | with_reducible exact fGet_2 | rfl))
          | ((with_reducible apply ls_ok); rfl; (first | with_reducible exact dMod_ok (by first | assumption | decide) | with_reducible exact dIx_L0 | with_reducible exact dIx_L1 | with_reducible exact dIx_L2 | with_reducible exact dIx_L3 | with_reducible exact dIx_T0 | with_reducible exact dIx_T1 | with_reducible exact dIx_T2 | with_reducible exact dIx_T3 | with_reducible exact dMul_r (by decide) | with_reducible exact dMul_l (by decide) | with_reducible exact dMul_l (hB _) | with_reducible exact dPow_ok (by decide) | with_reducible exact dFdiv_ok (by first | assumption | decide) | with_reducible exact fSet_0 | with_reducible exact fSet_1 | with_reducible exact fSet_2 | with_reducible exact fGet_2 | rfl))
          | ((with_reducible apply callk_ok); (simp [ownIx]); rfl))
  refine (take_ok h (n := (ds.length : Int)) (by omega) (by omega)).mono fun r out ⟨v, bag', e1, v0, v1, e2, hb⟩ => ?_
  subst e1 e2
  repeat (first
          | with_reducible refine ws_mSeq ?_
          | with_reducible refine ws_nx ?_
          | with_reducible refine ws_rt ?_
          | with_reducible refine ws_mAsg ?_
          | with_reducible refine ws_mB ?_
          | with_reducible refine ws_mOp ?_
          | with_reducible refine ws_mOpN ?_
          | with_reducible refine ws_mC1 ?_
          | with_reducible refine ws_mC1N ?_
          | with_reducible refine ws_ret ?_
          | with_reducible refine ws_mFz ?_
          | with_reducible refine ws_mTst ?_
          | with_reducible refine ws_mIfS ?_
          | with_reducible refine ws_mIf ?_
          | with_reducible refine ws_mAnd ?_
          | with_reducible refine ws_mOr ?_
          | with_reducible refine ws_mNot ?_
          | with_reducible refine ws_mNext ?_
          | with_reducible refine ws_mRet ?_
          | with_reducible refine ws_mRetN ?_
          | with_reducible refine ws_mRetF ?_
          | with_reducible refine ws_mSl ?_
          | with_reducible refine ws_mSlL ?_
          | with_reducible refine ws_mPart ?_
          | with_reducible refine ws_mNoP ?_
          | with_reducible refine ws_mCons ?_
          | with_reducible refine ws_mNil ?_
          | with_reducible refine ws_mTup ?_
          | with_reducible refine ws_mLst ?_
          | with_reducible refine ws_mSetL ?_
          | with_reducible refine ws_mAugS ?_
          | with_reducible refine ws_mMtE ?_
          | with_reducible refine ws_mCall ?_
          | with_reducible refine ws_mRE ?_
          | with_reducible refine ws_mRN ?_
          | with_reducible refine ws_mAsgN ?_
          | with_reducible refine ws_mIsN ?_
          | with_reducible refine ws_mNeg ?_
          | with_reducible refine ws_mDrop ?_
          | with_reducible refine ws_bk ?_
          | with_reducible refine ws_ct ?_
          | with_reducible refine ws_mFor ?_
          | with_reducible refine fork_ok ?_
          | with_reducible refine ws_mSigns ?_
          | with_reducible refine strk_ok ?_
          | with_reducible refine ws_mSeq1 ?_
          | with_reducible refine ws_mEnum ?_
          | with_reducible refine ws_mRng1 ?_
          | with_reducible refine ws_mLc ?_
          | with_reducible refine ws_mYes ?_
          | with_reducible refine ws_mLeaf ?_
          | with_reducible refine if_t ?_
          | with_reducible refine if_nt ?_
          | with_reducible refine if_nf ?_
          | with_reducible refine if_f ?_
          | with_reducible refine ws_mIsStr ?_
          | with_reducible refine ws_mChain ?_
          | with_reducible refine ws_mS1 ?_
          | with_reducible refine ws_mS1N ?_
          | with_reducible refine ws_mS2N ?_
          | with_reducible refine ws_mMt0 ?_
          | with_reducible refine ws_mMt1 ?_
          | with_reducible refine ws_mMt2 ?_
          | with_reducible refine ws_mPar ?_
          | with_reducible refine ws_mXs_nil ?_
          | with_reducible refine ws_mXs_cons ?_
          | with_reducible refine ws_mXe ?_
          | with_reducible refine ws_mStar ?_
          | with_reducible refine ws_mAndV ?_
          | with_reducible refine ws_mOrV ?_
          | with_reducible refine ws_mNotV ?_
          | with_reducible refine tst_ok ?_
          | with_reducible refine chk_ok rfl ?_
          | with_reducible refine intk_ok ?_
          | ((with_reducible apply ws_mVB); rfl)
          | ((with_reducible apply ws_mV); rfl)
          | ((with_reducible apply ws_mAug); rfl)
          | ((with_reducible apply rngk_ok); (first | assumption | decide | omega))
          | ((with_reducible apply lck_ok); rfl; rfl)
          | ((with_reducible apply ws_tg); rfl)
          | ((with_reducible apply svk_ok); rfl)
          | ((with_reducible apply valk_ok); rfl; (first | assumption | decide | simp [LIM]))
          | ((with_reducible apply lstk_ok); rfl)
          | ((with_reducible apply putk_ok); rfl)
          | ((with_reducible apply andk_ok); rfl)
          | ((with_reducible apply ws_mRetV); rfl)
          | ((with_reducible apply op_any); rfl; rfl; (first | with_reducible exact dMod_ok (by first | assumption | decide) | with_reducible exact dIx_L0 | with_reducible exact dIx_L1 | with_reducible exact dIx_L2 | with_reducible exact dIx_L3 | with_reducible exact dIx_T0 | with_reducible exact dIx_T1 | with_reducible exact dIx_T2 | with_reducible exact dIx_T3 | with_reducible exact dMul_r (by decide) | with_reducible exact dMul_l (by decide) | with_reducible exact dMul_l (hB _) | with_reducible exact dPow_ok (by decide) | with_reducible exact dFdiv_ok (by first | assumption | decide) | with_reducible exact fSet_0 | with_reducible exact fSet_1 | with_reducible exact fSet_2 | with_reducible exact fGet_2 | rfl))
          | ((with_reducible apply opN_any); rfl; rfl; (first | with_reducible exact catL_ok (by first | assumption | decide | (simp only [List.length_cons, List.length_nil, LIM] at *; omega)) | rfl))
          | ((with_reducible apply c1_any); rfl; (first | with_reducible exact ord_sign _ | rfl))
          | ((with_reducible apply optk_ok); rfl)
          | ((with_reducible apply getk_ok); rfl; (first | with_reducible exact dMod_ok (by first | assumption | decide) | with_reducible exact dIx_L0 | with_reducible exact dIx_L1 | with_reducible exact dIx_L2 | with_reducible exact dIx_L3 | with_reducible exact dIx_T0 | with_reducible exact dIx_T1 | with_reducible exact dIx_T2 | with_reducible exact dIx_T3 | with_reducible exact dMul_r (by decide) | with_reducible exact dMul_l (by decide) | with_reducible exact dMul_l (hB _) | with_reducible exact dPow_ok (by decide) | with_reducible exact dFdiv_ok (by first | assumption | decide) | with_reducible exact fSet_0 | with_reducible exact fSet_1 | with_reducible exact fSet_2 | with_reducible exact fGet_2 | rfl))
          | ((with_reducible apply ls_ok); rfl; (first | with_reducible exact dMod_ok (by first | assumption | decide) | with_reducible exact dIx_L0 | with_reducible exact dIx_L1 | with_reducible exact dIx_L2 | with_reducible exact dIx_L3 | with_reducible exact dIx_T0 | with_reducible exact dIx_T1 | with_reducible exact dIx_T2 | with_reducible exact dIx_T3 | with_reducible exact dMul_r (by decide) | with_reducible exact dMul_l (by decide) | with_reducible exact dMul_l (hB _) | with_reducible exact dPow_ok (by decide) | with_reducible exact dFdiv_ok (by first | assumption | decide) | with_reducible exact fSet_0 | with_reducible exact fSet_1 | with_reducible exact fSet_2 | with_reducible exact fGet_2 | rfl))
          | ((with_reducible apply callk_ok); (simp [ownIx]); rfl))
  obtain ⟨k, rfl⟩ : ∃ k : Nat, v = (k : Int) := ⟨v.toNat, by omega⟩
  have hk : k < ds.length := by omega
  refine op_any rfl rfl (dIx_LN (List.getElem?_eq_getElem hk)) ?_
  repeat (first
          | with_reducible refine ws_mSeq ?_
          | with_reducible refine ws_nx ?_
          | with_reducible refine ws_rt ?_
          | with_reducible refine ws_mAsg ?_
          | with_reducible refine ws_mB ?_
          | with_reducible refine ws_mOp ?_
          | with_reducible refine ws_mOpN ?_
          | with_reducible refine ws_mC1 ?_
          | with_reducible refine ws_mC1N ?_
          | with_reducible refine ws_ret ?_
          | with_reducible refine ws_mFz ?_
          | with_reducible refine ws_mTst ?_
          | with_reducible refine ws_mIfS ?_
          | with_reducible refine ws_mIf ?_
          | with_reducible refine ws_mAnd ?_
          | with_reducible refine ws_mOr ?_
          | with_reducible refine ws_mNot ?_
          | with_reducible refine ws_mNext ?_
          | with_reducible refine ws_mRet ?_
          | with_reducible refine ws_mRetN ?_
          | with_reducible refine ws_mRetF ?_
          | with_reducible refine ws_mSl ?_
          | with_reducible refine ws_mSlL ?_
          | with_reducible refine ws_mPart ?_
          | with_reducible refine ws_mNoP ?_
          | with_reducible refine ws_mCons ?_
          | with_reducible refine ws_mNil ?_
          | with_reducible refine ws_mTup ?_
          | with_reducible refine ws_mLst ?_
          | with_reducible refine ws_mSetL ?_
          | with_reducible refine ws_mAugS ?_
          | with_reducible refine ws_mMtE ?_
          | with_reducible refine ws_mCall ?_
          | with_reducible refine ws_mRE ?_
          | with_reducible refine ws_mRN ?_
          | with_reducible refine ws_mAsgN ?_
          | with_reducible refine ws_mIsN ?_
          | with_reducible refine ws_mNeg ?_
          | with_reducible refine ws_mDrop ?_
          | with_reducible refine ws_bk ?_
          | with_reducible refine ws_ct ?_
          | with_reducible refine ws_mFor ?_
          | with_reducible refine fork_ok ?_
          | with_reducible refine ws_mSigns ?_
          | with_reducible refine strk_ok ?_
          | with_reducible refine ws_mSeq1 ?_
          | with_reducible refine ws_mEnum ?_
          | with_reducible refine ws_mRng1 ?_
          | with_reducible refine ws_mLc ?_
          | with_reducible refine ws_mYes ?_
          | with_reducible refine ws_mLeaf ?_
          | with_reducible refine if_t ?_
          | with_reducible refine if_nt ?_
          | with_reducible refine if_nf ?_
          | with_reducible refine if_f ?_
          | with_reducible refine ws_mIsStr ?_
          | with_reducible refine ws_mChain ?_
          | with_reducible refine ws_mS1 ?_
          | with_reducible refine ws_mS1N ?_
          | with_reducible refine ws_mS2N ?_
          | with_reducible refine ws_mMt0 ?_
          | with_reducible refine ws_mMt1 ?_
          | with_reducible refine ws_mMt2 ?_
          | with_reducible refine ws_mPar ?_
          | with_reducible refine ws_mXs_nil ?_
          | with_reducible refine ws_mXs_cons ?_
          | with_reducible refine ws_mXe ?_
          | with_reducible refine ws_mStar ?_
          | with_reducible refine ws_mAndV ?_
          | with_reducible refine ws_mOrV ?_
          | with_reducible refine ws_mNotV ?_
          | with_reducible refine tst_ok ?_
          | with_reducible refine chk_ok rfl ?_
          | with_reducible refine intk_ok ?_
          | ((with_reducible apply ws_mVB); rfl)
          | ((with_reducible apply ws_mV); rfl)
          | ((with_reducible apply ws_mAug); rfl)
          | ((with_reducible apply rngk_ok); (first | assumption | decide | omega))
          | ((with_reducible apply lck_ok); rfl; rfl)
          | ((with_reducible apply ws_tg); rfl)
          | ((with_reducible apply svk_ok); rfl)
          | ((with_reducible apply valk_ok); rfl; (first | assumption | decide | simp [LIM]))
          | ((with_reducible apply lstk_ok); rfl)
          | ((with_reducible apply putk_ok); rfl)
          | ((with_reducible apply andk_ok); rfl)
          | ((with_reducible apply ws_mRetV); rfl)
          | ((with_reducible apply op_any); rfl; rfl; (first | with_reducible exact dMod_ok (by first | assumption | decide) | with_reducible exact dIx_L0 | with_reducible exact dIx_L1 | with_reducible exact dIx_L2 | with_reducible exact dIx_L3 | with_reducible exact dIx_T0 | with_reducible exact dIx_T1 | with_reducible exact dIx_T2 | with_reducible exact dIx_T3 | with_reducible exact dMul_r (by decide) | with_reducible exact dMul_l (by decide) | with_reducible exact dMul_l (hB _) | with_reducible exact dPow_ok (by decide) | with_reducible exact dFdiv_ok (by first | assumption | decide) | with_reducible exact fSet_0 | with_reducible exact fSet_1 | with_reducible exact fSet_2 | with_reducible exact fGet_2 | rfl))
          | ((with_reducible apply opN_any); rfl; rfl; (first | with_reducible exact catL_ok (by first | assumption | decide | (simp only [List.length_cons, List.length_nil, LIM] at *; omega)) | rfl))
          | ((with_reducible apply c1_any); rfl; (first | with_reducible exact ord_sign _ | rfl))
          | ((with_reducible apply optk_ok); rfl)
          | ((with_reducible apply getk_ok); rfl; (first | with_reducible exact dMod_ok (by first | assumption | decide) | with_reducible exact dIx_L0 | with_reducible exact dIx_L1 | with_reducible exact dIx_L2 | with_reducible exact dIx_L3 | with_reducible exact dIx_T0 | with_reducible exact dIx_T1 | with_reducible exact dIx_T2 | with_reducible exact dIx_T3 | with_reducible exact dMul_r (by decide) | with_reducible exact dMul_l (by decide) | with_reducible exact dMul_l (hB _) | with_reducible exact dPow_ok (by decide) | with_reducible exact dFdiv_ok (by first | assumption | decide) | with_reducible exact fSet_0 | with_reducible exact fSet_1 | with_reducible exact fSet_2 | with_reducible exact fGet_2 | rfl))
          | ((with_reducible apply ls_ok); rfl; (first | with_reducible exact dMod_ok (by first | assumption | decide) | with_reducible exact dIx_L0 | with_reducible exact dIx_L1 | with_reducible exact dIx_L2 | with_reducible exact dIx_L3 | with_reducible exact dIx_T0 | with_reducible exact dIx_T1 | with_reducible exact dIx_T2 | with_reducible exact dIx_T3 | with_reducible exact dMul_r (by decide) | with_reducible exact dMul_l (by decide) | with_reducible exact dMul_l (hB _) | with_reducible exact dPow_ok (by decide) | with_reducible exact dFdiv_ok (by first | assumption | decide) | with_reducible exact fSet_0 | with_reducible exact fSet_1 | with_reducible exact fSet_2 | with_reducible exact fGet_2 | rfl))
          | ((with_reducible apply callk_ok); (simp [ownIx]); rfl))
  exact kr _ _ ⟨_, bag', rfl, List.getElem_mem hk, rfl, hb⟩
theorem some_sign {bag : List Dt} {x : Str} (h : Bag bag) (h0 : x.cps.toList ≠ []) (h1 : x.length ≤ LIM) : WpF m__law_some [.lst true bag, .imm (.str x)] fun r out => ∃ c bag', r = .val (.str ⟨#[c]⟩) ∧ c ∈ x.cps.toList ∧ out = [.lst true bag', .imm (.str x)] ∧ Bag bag' := by
  unfold m__law_some
  refine wpF_of fun K kr kn => ?_
  unfold b__law_some
  have hp : 0 < x.cps.toList.length := List.length_pos_iff.mpr h0
  have hx : x.length = x.cps.toList.length := by simp [Str.length]
  have hl : dLen (.str x) = some (.int (x.length : Int)) := if_pos h1
  repeat (first | with_reducible refine ws_mSeq ?_ | with_reducible refine ws_mRet ?_ | with_reducible refine ws_mOp ?_ | with_reducible refine ws_mCons ?_ | ((with_reducible apply ws_mVB); rfl) | with_reducible refine ws_mB ?_ | with_reducible refine ws_mRE ?_ | with_reducible refine ws_mCall ?_ | with_reducible refine ws_mC1 ?_)
  refine c1_any rfl hl ?_
  repeat (first
          | with_reducible refine ws_mSeq ?_
          | with_reducible refine ws_nx ?_
          | with_reducible refine ws_rt ?_
          | with_reducible refine ws_mAsg ?_
          | with_reducible refine ws_mB ?_
          | with_reducible refine ws_mOp ?_
          | with_reducible refine ws_mOpN ?_
          | with_reducible refine ws_mC1 ?_
          | with_reducible refine ws_mC1N ?_
          | with_reducible refine ws_ret ?_
          | with_reducible refine ws_mFz ?_
          | with_reducible refine ws_mTst ?_
          | with_reducible refine ws_mIfS ?_
          | with_reducible refine ws_mIf ?_
          | with_reducible refine ws_mAnd ?_
          | with_reducible refine ws_mOr ?_
          | with_reducible refine ws_mNot ?_
          | with_reducible refine ws_mNext ?_
          | with_reducible refine ws_mRet ?_
          | with_reducible refine ws_mRetN ?_
          | with_reducible refine ws_mRetF ?_
          | with_reducible refine ws_mSl ?_
          | with_reducible refine ws_mSlL ?_
          | with_reducible refine ws_mPart ?_
          | with_reducible refine ws_mNoP ?_
          | with_reducible refine ws_mCons ?_
          | with_reducible refine ws_mNil ?_
          | with_reducible refine ws_mTup ?_
          | with_reducible refine ws_mLst ?_
          | with_reducible refine ws_mSetL ?_
          | with_reducible refine ws_mAugS ?_
          | with_reducible refine ws_mMtE ?_
          | with_reducible refine ws_mCall ?_
          | with_reducible refine ws_mRE ?_
          | with_reducible refine ws_mRN ?_
          | with_reducible refine ws_mAsgN ?_
          | with_reducible refine ws_mIsN ?_
          | with_reducible refine ws_mNeg ?_
          | with_reducible refine ws_mDrop ?_
          | with_reducible refine ws_bk ?_
          | with_reducible refine ws_ct ?_
          | with_reducible refine ws_mFor ?_
          | with_reducible refine fork_ok ?_
          | with_reducible refine ws_mSigns ?_
          | with_reducible refine strk_ok ?_
          | with_reducible refine ws_mSeq1 ?_
          | with_reducible refine ws_mEnum ?_
          | with_reducible refine ws_mRng1 ?_
          | with_reducible refine ws_mLc ?_
          | with_reducible refine ws_mYes ?_
          | with_reducible refine ws_mLeaf ?_
          | with_reducible refine if_t ?_
          | with_reducible refine if_nt ?_
          | with_reducible refine if_nf ?_
          | with_reducible refine if_f ?_
          | with_reducible refine ws_mIsStr ?_
          | with_reducible refine ws_mChain ?_
          | with_reducible refine ws_mS1 ?_
          | with_reducible refine ws_mS1N ?_
          | with_reducible refine ws_mS2N ?_
          | with_reducible refine ws_mMt0 ?_
          | with_reducible refine ws_mMt1 ?_
          | with_reducible refine ws_mMt2 ?_
          | with_reducible refine ws_mPar ?_
          | with_reducible refine ws_mXs_nil ?_
          | with_reducible refine ws_mXs_cons ?_
          | with_reducible refine ws_mXe ?_
          | with_reducible refine ws_mStar ?_
          | with_reducible refine ws_mAndV ?_
          | with_reducible refine ws_mOrV ?_
          | with_reducible refine ws_mNotV ?_
          | with_reducible refine tst_ok ?_
          | with_reducible refine chk_ok rfl ?_
          | with_reducible refine intk_ok ?_
          | ((with_reducible apply ws_mVB); rfl)
          | ((with_reducible apply ws_mV); rfl)
          | ((with_reducible apply ws_mAug); rfl)
          | ((with_reducible apply rngk_ok); (first | assumption | decide | omega))
          | ((with_reducible apply lck_ok); rfl; rfl)
          | ((with_reducible apply ws_tg); rfl)
          | ((with_reducible apply svk_ok); rfl)
          | ((with_reducible apply valk_ok); rfl; (first | assumption | decide | simp [LIM]))
          | ((with_reducible apply lstk_ok); rfl)
          | ((with_reducible apply putk_ok); rfl)
          | ((with_reducible apply andk_ok); rfl)
          | ((with_reducible apply ws_mRetV); rfl)
          | ((with_reducible apply op_any); rfl; rfl; (first | with_reducible exact dMod_ok (by first | assumption | decide) | with_reducible exact dIx_L0 | with_reducible exact dIx_L1 | with_reducible exact dIx_L2 | with_reducible exact dIx_L3 | with_reducible exact dIx_T0 | with_reducible exact dIx_T1 | with_reducible exact dIx_T2 | with_reducible exact dIx_T3 | with_reducible exact dMul_r (by decide) | with_reducible exact dMul_l (by decide) | with_reducible exact dMul_l (hB _) | with_reducible exact dPow_ok (by decide) | with_reducible exact dFdiv_ok (by first | assumption | decide) | with_reducible exact fSet_0 | with_reducible exact fSet_1 | with_reducible exact fSet_2 | with_reducible exact fGet_2 | rfl))
          | ((with_reducible apply opN_any); rfl; rfl; (first | with_reducible exact catL_ok (by first | assumption | decide | (simp only [List.length_cons, List.length_nil, LIM] at *; omega)) | rfl))
          | ((with_reducible apply c1_any); rfl; (first | with_reducible exact ord_sign _ | rfl))
          | ((with_reducible apply optk_ok); rfl)
          | ((with_reducible apply getk_ok); rfl; (first | with_reducible exact dMod_ok (by first | assumption | decide) | with_reducible exact dIx_L0 | with_reducible exact dIx_L1 | with_reducible exact dIx_L2 | with_reducible exact dIx_L3 | with_reducible exact dIx_T0 | with_reducible exact dIx_T1 | with_reducible exact dIx_T2 | with_reducible exact dIx_T3 | with_reducible exact dMul_r (by decide) | with_reducible exact dMul_l (by decide) | with_reducible exact dMul_l (hB _) | with_reducible exact dPow_ok (by decide) | with_reducible exact dFdiv_ok (by first | assumption | decide) | with_reducible exact fSet_0 | with_reducible exact fSet_1 | with_reducible exact fSet_2 | with_reducible exact fGet_2 | rfl))
          | ((with_reducible apply ls_ok); rfl; (first | with_reducible exact dMod_ok (by first | assumption | decide) | with_reducible exact dIx_L0 | with_reducible exact dIx_L1 | with_reducible exact dIx_L2 | with_reducible exact dIx_L3 | with_reducible exact dIx_T0 | with_reducible exact dIx_T1 | with_reducible exact dIx_T2 | with_reducible exact dIx_T3 | with_reducible exact dMul_r (by decide) | with_reducible exact dMul_l (by decide) | with_reducible exact dMul_l (hB _) | with_reducible exact dPow_ok (by decide) | with_reducible exact dFdiv_ok (by first | assumption | decide) | with_reducible exact fSet_0 | with_reducible exact fSet_1 | with_reducible exact fSet_2 | with_reducible exact fGet_2 | rfl))
          | ((with_reducible apply callk_ok); (simp [ownIx]); rfl))
  refine (take_ok h (n := (x.length : Int)) (by omega) (by unfold LIM at h1; omega)).mono fun r out ⟨v, bag', e1, v0, v1, e2, hb⟩ => ?_
  subst e1 e2
  repeat (first
          | with_reducible refine ws_mSeq ?_
          | with_reducible refine ws_nx ?_
          | with_reducible refine ws_rt ?_
          | with_reducible refine ws_mAsg ?_
          | with_reducible refine ws_mB ?_
          | with_reducible refine ws_mOp ?_
          | with_reducible refine ws_mOpN ?_
          | with_reducible refine ws_mC1 ?_
          | with_reducible refine ws_mC1N ?_
          | with_reducible refine ws_ret ?_
          | with_reducible refine ws_mFz ?_
          | with_reducible refine ws_mTst ?_
          | with_reducible refine ws_mIfS ?_
          | with_reducible refine ws_mIf ?_
          | with_reducible refine ws_mAnd ?_
          | with_reducible refine ws_mOr ?_
          | with_reducible refine ws_mNot ?_
          | with_reducible refine ws_mNext ?_
          | with_reducible refine ws_mRet ?_
          | with_reducible refine ws_mRetN ?_
          | with_reducible refine ws_mRetF ?_
          | with_reducible refine ws_mSl ?_
          | with_reducible refine ws_mSlL ?_
          | with_reducible refine ws_mPart ?_
          | with_reducible refine ws_mNoP ?_
          | with_reducible refine ws_mCons ?_
          | with_reducible refine ws_mNil ?_
          | with_reducible refine ws_mTup ?_
          | with_reducible refine ws_mLst ?_
          | with_reducible refine ws_mSetL ?_
          | with_reducible refine ws_mAugS ?_
          | with_reducible refine ws_mMtE ?_
          | with_reducible refine ws_mCall ?_
          | with_reducible refine ws_mRE ?_
          | with_reducible refine ws_mRN ?_
          | with_reducible refine ws_mAsgN ?_
          | with_reducible refine ws_mIsN ?_
          | with_reducible refine ws_mNeg ?_
          | with_reducible refine ws_mDrop ?_
          | with_reducible refine ws_bk ?_
          | with_reducible refine ws_ct ?_
          | with_reducible refine ws_mFor ?_
          | with_reducible refine fork_ok ?_
          | with_reducible refine ws_mSigns ?_
          | with_reducible refine strk_ok ?_
          | with_reducible refine ws_mSeq1 ?_
          | with_reducible refine ws_mEnum ?_
          | with_reducible refine ws_mRng1 ?_
          | with_reducible refine ws_mLc ?_
          | with_reducible refine ws_mYes ?_
          | with_reducible refine ws_mLeaf ?_
          | with_reducible refine if_t ?_
          | with_reducible refine if_nt ?_
          | with_reducible refine if_nf ?_
          | with_reducible refine if_f ?_
          | with_reducible refine ws_mIsStr ?_
          | with_reducible refine ws_mChain ?_
          | with_reducible refine ws_mS1 ?_
          | with_reducible refine ws_mS1N ?_
          | with_reducible refine ws_mS2N ?_
          | with_reducible refine ws_mMt0 ?_
          | with_reducible refine ws_mMt1 ?_
          | with_reducible refine ws_mMt2 ?_
          | with_reducible refine ws_mPar ?_
          | with_reducible refine ws_mXs_nil ?_
          | with_reducible refine ws_mXs_cons ?_
          | with_reducible refine ws_mXe ?_
          | with_reducible refine ws_mStar ?_
          | with_reducible refine ws_mAndV ?_
          | with_reducible refine ws_mOrV ?_
          | with_reducible refine ws_mNotV ?_
          | with_reducible refine tst_ok ?_
          | with_reducible refine chk_ok rfl ?_
          | with_reducible refine intk_ok ?_
          | ((with_reducible apply ws_mVB); rfl)
          | ((with_reducible apply ws_mV); rfl)
          | ((with_reducible apply ws_mAug); rfl)
          | ((with_reducible apply rngk_ok); (first | assumption | decide | omega))
          | ((with_reducible apply lck_ok); rfl; rfl)
          | ((with_reducible apply ws_tg); rfl)
          | ((with_reducible apply svk_ok); rfl)
          | ((with_reducible apply valk_ok); rfl; (first | assumption | decide | simp [LIM]))
          | ((with_reducible apply lstk_ok); rfl)
          | ((with_reducible apply putk_ok); rfl)
          | ((with_reducible apply andk_ok); rfl)
          | ((with_reducible apply ws_mRetV); rfl)
          | ((with_reducible apply op_any); rfl; rfl; (first | with_reducible exact dMod_ok (by first | assumption | decide) | with_reducible exact dIx_L0 | with_reducible exact dIx_L1 | with_reducible exact dIx_L2 | with_reducible exact dIx_L3 | with_reducible exact dIx_T0 | with_reducible exact dIx_T1 | with_reducible exact dIx_T2 | with_reducible exact dIx_T3 | with_reducible exact dMul_r (by decide) | with_reducible exact dMul_l (by decide) | with_reducible exact dMul_l (hB _) | with_reducible exact dPow_ok (by decide) | with_reducible exact dFdiv_ok (by first | assumption | decide) | with_reducible exact fSet_0 | with_reducible exact fSet_1 | with_reducible exact fSet_2 | with_reducible exact fGet_2 | rfl))
          | ((with_reducible apply opN_any); rfl; rfl; (first | with_reducible exact catL_ok (by first | assumption | decide | (simp only [List.length_cons, List.length_nil, LIM] at *; omega)) | rfl))
          | ((with_reducible apply c1_any); rfl; (first | with_reducible exact ord_sign _ | rfl))
          | ((with_reducible apply optk_ok); rfl)
          | ((with_reducible apply getk_ok); rfl; (first | with_reducible exact dMod_ok (by first | assumption | decide) | with_reducible exact dIx_L0 | with_reducible exact dIx_L1 | with_reducible exact dIx_L2 | with_reducible exact dIx_L3 | with_reducible exact dIx_T0 | with_reducible exact dIx_T1 | with_reducible exact dIx_T2 | with_reducible exact dIx_T3 | with_reducible exact dMul_r (by decide) | with_reducible exact dMul_l (by decide) | with_reducible exact dMul_l (hB _) | with_reducible exact dPow_ok (by decide) | with_reducible exact dFdiv_ok (by first | assumption | decide) | with_reducible exact fSet_0 | with_reducible exact fSet_1 | with_reducible exact fSet_2 | with_reducible exact fGet_2 | rfl))
          | ((with_reducible apply ls_ok); rfl; (first | with_reducible exact dMod_ok (by first | assumption | decide) | with_reducible exact dIx_L0 | with_reducible exact dIx_L1 | with_reducible exact dIx_L2 | with_reducible exact dIx_L3 | with_reducible exact dIx_T0 | with_reducible exact dIx_T1 | with_reducible exact dIx_T2 | with_reducible exact dIx_T3 | with_reducible exact dMul_r (by decide) | with_reducible exact dMul_l (by decide) | with_reducible exact dMul_l (hB _) | with_reducible exact dPow_ok (by decide) | with_reducible exact dFdiv_ok (by first | assumption | decide) | with_reducible exact fSet_0 | with_reducible exact fSet_1 | with_reducible exact fSet_2 | with_reducible exact fGet_2 | rfl))
          | ((with_reducible apply callk_ok); (simp [ownIx]); rfl))
  obtain ⟨k, rfl⟩ : ∃ k : Nat, v = (k : Int) := ⟨v.toNat, by omega⟩
  have hk : k < x.cps.toList.length := by omega
  have hi : dIx (.str x) (.int (k : Int)) = some (.str ⟨#[x.cps.toList[k]]⟩) := by
    show (if x.length ≤ LIM then _ else _) = _
    rw [if_pos h1]
    unfold atI ixN
    rw [if_pos (by omega), if_pos (by omega)]
    simp [hk]
  refine op_any rfl rfl hi ?_
  repeat (first
          | with_reducible refine ws_mSeq ?_
          | with_reducible refine ws_nx ?_
          | with_reducible refine ws_rt ?_
          | with_reducible refine ws_mAsg ?_
          | with_reducible refine ws_mB ?_
          | with_reducible refine ws_mOp ?_
          | with_reducible refine ws_mOpN ?_
          | with_reducible refine ws_mC1 ?_
          | with_reducible refine ws_mC1N ?_
          | with_reducible refine ws_ret ?_
          | with_reducible refine ws_mFz ?_
          | with_reducible refine ws_mTst ?_
          | with_reducible refine ws_mIfS ?_
          | with_reducible refine ws_mIf ?_
          | with_reducible refine ws_mAnd ?_
          | with_reducible refine ws_mOr ?_
          | with_reducible refine ws_mNot ?_
          | with_reducible refine ws_mNext ?_
          | with_reducible refine ws_mRet ?_
          | with_reducible refine ws_mRetN ?_
          | with_reducible refine ws_mRetF ?_
          | with_reducible refine ws_mSl ?_
          | with_reducible refine ws_mSlL ?_
          | with_reducible refine ws_mPart ?_
          | with_reducible refine ws_mNoP ?_
          | with_reducible refine ws_mCons ?_
          | with_reducible refine ws_mNil ?_
          | with_reducible refine ws_mTup ?_
          | with_reducible refine ws_mLst ?_
          | with_reducible refine ws_mSetL ?_
          | with_reducible refine ws_mAugS ?_
          | with_reducible refine ws_mMtE ?_
          | with_reducible refine ws_mCall ?_
          | with_reducible refine ws_mRE ?_
          | with_reducible refine ws_mRN ?_
          | with_reducible refine ws_mAsgN ?_
          | with_reducible refine ws_mIsN ?_
          | with_reducible refine ws_mNeg ?_
          | with_reducible refine ws_mDrop ?_
          | with_reducible refine ws_bk ?_
          | with_reducible refine ws_ct ?_
          | with_reducible refine ws_mFor ?_
          | with_reducible refine fork_ok ?_
          | with_reducible refine ws_mSigns ?_
          | with_reducible refine strk_ok ?_
          | with_reducible refine ws_mSeq1 ?_
          | with_reducible refine ws_mEnum ?_
          | with_reducible refine ws_mRng1 ?_
          | with_reducible refine ws_mLc ?_
          | with_reducible refine ws_mYes ?_
          | with_reducible refine ws_mLeaf ?_
          | with_reducible refine if_t ?_
          | with_reducible refine if_nt ?_
          | with_reducible refine if_nf ?_
          | with_reducible refine if_f ?_
          | with_reducible refine ws_mIsStr ?_
          | with_reducible refine ws_mChain ?_
          | with_reducible refine ws_mS1 ?_
          | with_reducible refine ws_mS1N ?_
          | with_reducible refine ws_mS2N ?_
          | with_reducible refine ws_mMt0 ?_
          | with_reducible refine ws_mMt1 ?_
          | with_reducible refine ws_mMt2 ?_
          | with_reducible refine ws_mPar ?_
          | with_reducible refine ws_mXs_nil ?_
          | with_reducible refine ws_mXs_cons ?_
          | with_reducible refine ws_mXe ?_
          | with_reducible refine ws_mStar ?_
          | with_reducible refine ws_mAndV ?_
          | with_reducible refine ws_mOrV ?_
          | with_reducible refine ws_mNotV ?_
          | with_reducible refine tst_ok ?_
          | with_reducible refine chk_ok rfl ?_
          | with_reducible refine intk_ok ?_
          | ((with_reducible apply ws_mVB); rfl)
          | ((with_reducible apply ws_mV); rfl)
          | ((with_reducible apply ws_mAug); rfl)
          | ((with_reducible apply rngk_ok); (first | assumption | decide | omega))
          | ((with_reducible apply lck_ok); rfl; rfl)
          | ((with_reducible apply ws_tg); rfl)
          | ((with_reducible apply svk_ok); rfl)
          | ((with_reducible apply valk_ok); rfl; (first | assumption | decide | simp [LIM]))
          | ((with_reducible apply lstk_ok); rfl)
          | ((with_reducible apply putk_ok); rfl)
          | ((with_reducible apply andk_ok); rfl)
          | ((with_reducible apply ws_mRetV); rfl)
          | ((with_reducible apply op_any); rfl; rfl; (first | with_reducible exact dMod_ok (by first | assumption | decide) | with_reducible exact dIx_L0 | with_reducible exact dIx_L1 | with_reducible exact dIx_L2 | with_reducible exact dIx_L3 | with_reducible exact dIx_T0 | with_reducible exact dIx_T1 | with_reducible exact dIx_T2 | with_reducible exact dIx_T3 | with_reducible exact dMul_r (by decide) | with_reducible exact dMul_l (by decide) | with_reducible exact dMul_l (hB _) | with_reducible exact dPow_ok (by decide) | with_reducible exact dFdiv_ok (by first | assumption | decide) | with_reducible exact fSet_0 | with_reducible exact fSet_1 | with_reducible exact fSet_2 | with_reducible exact fGet_2 | rfl))
          | ((with_reducible apply opN_any); rfl; rfl; (first | with_reducible exact catL_ok (by first | assumption | decide | (simp only [List.length_cons, List.length_nil, LIM] at *; omega)) | rfl))
          | ((with_reducible apply c1_any); rfl; (first | with_reducible exact ord_sign _ | rfl))
          | ((with_reducible apply optk_ok); rfl)
          | ((with_reducible apply getk_ok); rfl; (first | with_reducible exact dMod_ok (by first | assumption | decide) | with_reducible exact dIx_L0 | with_reducible exact dIx_L1 | with_reducible exact dIx_L2 | with_reducible exact dIx_L3 | with_reducible exact dIx_T0 | with_reducible exact dIx_T1 | with_reducible exact dIx_T2 | with_reducible exact dIx_T3 | with_reducible exact dMul_r (by decide) | with_reducible exact dMul_l (by decide) | with_reducible exact dMul_l (hB _) | with_reducible exact dPow_ok (by decide) | with_reducible exact dFdiv_ok (by first | assumption | decide) | with_reducible exact fSet_0 | with_reducible exact fSet_1 | with_reducible exact fSet_2 | with_reducible exact fGet_2 | rfl))
          | ((with_reducible apply ls_ok); rfl; (first | with_reducible exact dMod_ok (by first | assumption | decide) | with_reducible exact dIx_L0 | with_reducible exact dIx_L1 | with_reducible exact dIx_L2 | with_reducible exact dIx_L3 | with_reducible exact dIx_T0 | with_reducible exact dIx_T1 | with_reducible exact dIx_T2 | with_reducible exact dIx_T3 | with_reducible exact dMul_r (by decide) | with_reducible exact dMul_l (by decide) | with_reducible exact dMul_l (hB _) | with_reducible exact dPow_ok (by decide) | with_reducible exact dFdiv_ok (by first | assumption | decide) | with_reducible exact fSet_0 | with_reducible exact fSet_1 | with_reducible exact fSet_2 | with_reducible exact fGet_2 | rfl))
          | ((with_reducible apply callk_ok); (simp [ownIx]); rfl))
  exact kr _ _ ⟨_, bag', rfl, List.getElem_mem hk, rfl, hb⟩
end W
end
local macro_rules | `(tactic| walk_at "dl one") => `(tactic| first
    | with_reducible refine DL.ws_mSeq ?_
    | with_reducible refine DL.ws_nx ?_
    | with_reducible refine DL.ws_rt ?_
    | with_reducible refine DL.ws_mAsg ?_
    | with_reducible refine DL.ws_mB ?_
    | with_reducible refine DL.ws_mOp ?_
    | with_reducible refine DL.ws_mOpN ?_
    | with_reducible refine DL.ws_mC1 ?_
    | with_reducible refine DL.ws_mC1N ?_
    | with_reducible refine DL.ws_ret ?_
    | with_reducible refine DL.ws_mFz ?_
    | with_reducible refine DL.ws_mTst ?_
    | with_reducible refine DL.ws_mIfS ?_
    | with_reducible refine DL.ws_mIf ?_
    | with_reducible refine DL.ws_mAnd ?_
    | with_reducible refine DL.ws_mOr ?_
    | with_reducible refine DL.ws_mNot ?_
    | with_reducible refine DL.ws_mNext ?_
    | with_reducible refine DL.ws_mRet ?_
    | with_reducible refine DL.ws_mRetN ?_
    | with_reducible refine DL.ws_mRetF ?_
    | with_reducible refine DL.ws_mSl ?_
    | with_reducible refine DL.ws_mSlL ?_
    | with_reducible refine DL.ws_mPart ?_
    | with_reducible refine DL.ws_mNoP ?_
    | with_reducible refine DL.ws_mCons ?_
    | with_reducible refine DL.ws_mNil ?_
    | with_reducible refine DL.ws_mTup ?_
    | with_reducible refine DL.ws_mLst ?_
    | with_reducible refine DL.ws_mSetL ?_
    | with_reducible refine DL.ws_mAugS ?_
    | with_reducible refine DL.ws_mMtE ?_
    | with_reducible refine DL.ws_mCall ?_
    | with_reducible refine DL.ws_mRE ?_
    | with_reducible refine DL.ws_mRN ?_
    | with_reducible refine DL.ws_mAsgN ?_
    | with_reducible refine DL.ws_mIsN ?_
    | with_reducible refine DL.ws_mNeg ?_
    | with_reducible refine DL.ws_mDrop ?_
    | with_reducible refine DL.ws_bk ?_
    | with_reducible refine DL.ws_ct ?_
    | with_reducible refine DL.ws_mFor ?_
    | with_reducible refine DL.fork_ok ?_
    | with_reducible refine DL.ws_mSigns ?_
    | with_reducible refine DL.strk_ok ?_
    | with_reducible refine DL.ws_mSeq1 ?_
    | with_reducible refine DL.ws_mEnum ?_
    | with_reducible refine DL.ws_mRng1 ?_
    | with_reducible refine DL.ws_mLc ?_
    | with_reducible refine DL.ws_mYes ?_
    | with_reducible refine DL.ws_mLeaf ?_
    | with_reducible refine DL.if_t ?_
    | with_reducible refine DL.if_nt ?_
    | with_reducible refine DL.if_nf ?_
    | with_reducible refine DL.if_f ?_
    | with_reducible refine DL.ws_mIsStr ?_
    | with_reducible refine DL.ws_mChain ?_
    | with_reducible refine DL.ws_mS1 ?_
    | with_reducible refine DL.ws_mS1N ?_
    | with_reducible refine DL.ws_mS2N ?_
    | with_reducible refine DL.ws_mMt0 ?_
    | with_reducible refine DL.ws_mMt1 ?_
    | with_reducible refine DL.ws_mMt2 ?_
    | with_reducible refine DL.ws_mPar ?_
    | with_reducible refine DL.ws_mXs_nil ?_
    | with_reducible refine DL.ws_mXs_cons ?_
    | with_reducible refine DL.ws_mXe ?_
    | with_reducible refine DL.ws_mStar ?_
    | with_reducible refine DL.ws_mAndV ?_
    | with_reducible refine DL.ws_mOrV ?_
    | with_reducible refine DL.ws_mNotV ?_
    | with_reducible refine DL.tst_ok ?_
    | with_reducible refine DL.chk_ok rfl ?_
    | with_reducible refine DL.intk_ok ?_
    | ((with_reducible apply DL.ws_mVB); rfl)
    | ((with_reducible apply DL.ws_mV); rfl)
    | ((with_reducible apply DL.ws_mAug); rfl)
    | ((with_reducible apply DL.rngk_ok); (first | assumption | decide | omega))
    | ((with_reducible apply DL.lck_ok); rfl; rfl)
    | ((with_reducible apply DL.ws_tg); rfl)
    | ((with_reducible apply DL.svk_ok); rfl)
    | ((with_reducible apply DL.valk_ok); rfl; (first | assumption | decide | simp [DL.LIM]))
    | ((with_reducible apply DL.lstk_ok); rfl)
    | ((with_reducible apply DL.putk_ok); rfl)
    | ((with_reducible apply DL.andk_ok); rfl)
    | ((with_reducible apply DL.ws_mRetV); rfl)
    | ((with_reducible apply DL.op_any); rfl; rfl; (first | with_reducible exact DL.dMod_ok (by first | assumption | decide) | with_reducible exact DL.dIx_L0 | with_reducible exact DL.dIx_L1 | with_reducible exact DL.dIx_L2 | with_reducible exact DL.dIx_L3 | with_reducible exact DL.dIx_T0 | with_reducible exact DL.dIx_T1 | with_reducible exact DL.dIx_T2 | with_reducible exact DL.dIx_T3 | with_reducible exact DL.dMul_r (by decide) | with_reducible exact DL.dMul_l (by decide) | with_reducible exact DL.dPow_ok (by decide) | with_reducible exact DL.dFdiv_ok (by first | assumption | decide) | with_reducible exact DL.fSet_0 | with_reducible exact DL.fSet_1 | with_reducible exact DL.fSet_2 | with_reducible exact DL.fGet_2 | rfl))
    | ((with_reducible apply DL.opN_any); rfl; rfl; (first | with_reducible exact DL.catL_ok (by first | assumption | decide | (simp only [List.length_cons, List.length_nil, DL.LIM] at *; omega)) | rfl))
    | ((with_reducible apply DL.c1_any); rfl; (first | with_reducible exact DL.ord_sign _ | rfl))
    | ((with_reducible apply DL.optk_ok); rfl)
    | ((with_reducible apply DL.getk_ok); rfl; (first | with_reducible exact DL.dMod_ok (by first | assumption | decide) | with_reducible exact DL.dIx_L0 | with_reducible exact DL.dIx_L1 | with_reducible exact DL.dIx_L2 | with_reducible exact DL.dIx_L3 | with_reducible exact DL.dIx_T0 | with_reducible exact DL.dIx_T1 | with_reducible exact DL.dIx_T2 | with_reducible exact DL.dIx_T3 | with_reducible exact DL.dMul_r (by decide) | with_reducible exact DL.dMul_l (by decide) | with_reducible exact DL.dPow_ok (by decide) | with_reducible exact DL.dFdiv_ok (by first | assumption | decide) | with_reducible exact DL.fSet_0 | with_reducible exact DL.fSet_1 | with_reducible exact DL.fSet_2 | with_reducible exact DL.fGet_2 | rfl))
    | ((with_reducible apply DL.ls_ok); rfl; (first | with_reducible exact DL.dMod_ok (by first | assumption | decide) | with_reducible exact DL.dIx_L0 | with_reducible exact DL.dIx_L1 | with_reducible exact DL.dIx_L2 | with_reducible exact DL.dIx_L3 | with_reducible exact DL.dIx_T0 | with_reducible exact DL.dIx_T1 | with_reducible exact DL.dIx_T2 | with_reducible exact DL.dIx_T3 | with_reducible exact DL.dMul_r (by decide) | with_reducible exact DL.dMul_l (by decide) | with_reducible exact DL.dPow_ok (by decide) | with_reducible exact DL.dFdiv_ok (by first | assumption | decide) | with_reducible exact DL.fSet_0 | with_reducible exact DL.fSet_1 | with_reducible exact DL.fSet_2 | with_reducible exact DL.fGet_2 | rfl))
    | ((with_reducible apply DL.callk_ok); (simp [DL.ownIx]); rfl))
local macro_rules | `(tactic| walk_at "dl two") => `(tactic| first
    | with_reducible refine DL.ws_mSeq ?_
    | with_reducible refine DL.ws_nx ?_
    | with_reducible refine DL.ws_rt ?_
    | with_reducible refine DL.ws_mAsg ?_
    | with_reducible refine DL.ws_mB ?_
    | with_reducible refine DL.ws_mOp ?_
    | with_reducible refine DL.ws_mOpN ?_
    | with_reducible refine DL.ws_mC1 ?_
    | with_reducible refine DL.ws_mC1N ?_
    | with_reducible refine DL.ws_ret ?_
    | with_reducible refine DL.ws_mFz ?_
    | with_reducible refine DL.ws_mTst ?_
    | with_reducible refine DL.ws_mIfS ?_
    | with_reducible refine DL.ws_mIf ?_
    | with_reducible refine DL.ws_mAnd ?_
    | with_reducible refine DL.ws_mOr ?_
    | with_reducible refine DL.ws_mNot ?_
    | with_reducible refine DL.ws_mNext ?_
    | with_reducible refine DL.ws_mRet ?_
    | with_reducible refine DL.ws_mRetN ?_
    | with_reducible refine DL.ws_mRetF ?_
    | with_reducible refine DL.ws_mSl ?_
    | with_reducible refine DL.ws_mSlL ?_
    | with_reducible refine DL.ws_mPart ?_
    | with_reducible refine DL.ws_mNoP ?_
    | with_reducible refine DL.ws_mCons ?_
    | with_reducible refine DL.ws_mNil ?_
    | with_reducible refine DL.ws_mTup ?_
    | with_reducible refine DL.ws_mLst ?_
    | with_reducible refine DL.ws_mSetL ?_
    | with_reducible refine DL.ws_mAugS ?_
    | with_reducible refine DL.ws_mMtE ?_
    | with_reducible refine DL.ws_mCall ?_
    | with_reducible refine DL.ws_mRE ?_
    | with_reducible refine DL.ws_mRN ?_
    | with_reducible refine DL.ws_mAsgN ?_
    | with_reducible refine DL.ws_mIsN ?_
    | with_reducible refine DL.ws_mNeg ?_
    | with_reducible refine DL.ws_mDrop ?_
    | with_reducible refine DL.ws_bk ?_
    | with_reducible refine DL.ws_ct ?_
    | with_reducible refine DL.ws_mFor ?_
    | with_reducible refine DL.fork_ok ?_
    | with_reducible refine DL.ws_mSigns ?_
    | with_reducible refine DL.strk_ok ?_
    | with_reducible refine DL.ws_mSeq1 ?_
    | with_reducible refine DL.ws_mEnum ?_
    | with_reducible refine DL.ws_mRng1 ?_
    | with_reducible refine DL.ws_mLc ?_
    | with_reducible refine DL.ws_mYes ?_
    | with_reducible refine DL.ws_mLeaf ?_
    | with_reducible refine DL.if_t ?_
    | with_reducible refine DL.if_nt ?_
    | with_reducible refine DL.if_nf ?_
    | with_reducible refine DL.if_f ?_
    | with_reducible refine DL.ws_mIsStr ?_
    | with_reducible refine DL.ws_mChain ?_
    | with_reducible refine DL.ws_mS1 ?_
    | with_reducible refine DL.ws_mS1N ?_
    | with_reducible refine DL.ws_mS2N ?_
    | with_reducible refine DL.ws_mMt0 ?_
    | with_reducible refine DL.ws_mMt1 ?_
    | with_reducible refine DL.ws_mMt2 ?_
    | with_reducible refine DL.ws_mPar ?_
    | with_reducible refine DL.ws_mXs_nil ?_
    | with_reducible refine DL.ws_mXs_cons ?_
    | with_reducible refine DL.ws_mXe ?_
    | with_reducible refine DL.ws_mStar ?_
    | with_reducible refine DL.ws_mAndV ?_
    | with_reducible refine DL.ws_mOrV ?_
    | with_reducible refine DL.ws_mNotV ?_
    | with_reducible refine DL.tst_ok ?_
    | with_reducible refine DL.chk_ok rfl ?_
    | with_reducible refine DL.intk_ok ?_
    | ((with_reducible apply DL.ws_mVB); rfl)
    | ((with_reducible apply DL.ws_mV); rfl)
    | ((with_reducible apply DL.ws_mAug); rfl)
    | ((with_reducible apply DL.rngk_ok); (first | assumption | decide | omega))
    | ((with_reducible apply DL.lck_ok); rfl; rfl)
    | ((with_reducible apply DL.ws_tg); rfl)
    | ((with_reducible apply DL.svk_ok); rfl)
    | ((with_reducible apply DL.valk_ok); rfl; (first | assumption | decide | simp [DL.LIM]))
    | ((with_reducible apply DL.lstk_ok); rfl)
    | ((with_reducible apply DL.putk_ok); rfl)
    | ((with_reducible apply DL.andk_ok); rfl)
    | ((with_reducible apply DL.ws_mRetV); rfl)
    | ((with_reducible apply DL.op_any); rfl; rfl; (first | with_reducible exact DL.dMod_ok (by first | assumption | decide) | with_reducible exact DL.dIx_L0 | with_reducible exact DL.dIx_L1 | with_reducible exact DL.dIx_L2 | with_reducible exact DL.dIx_L3 | with_reducible exact DL.dIx_T0 | with_reducible exact DL.dIx_T1 | with_reducible exact DL.dIx_T2 | with_reducible exact DL.dIx_T3 | with_reducible exact DL.dMul_r (by decide) | with_reducible exact DL.dMul_l (by decide) | with_reducible exact DL.dPow_ok (by decide) | with_reducible exact DL.dFdiv_ok (by first | assumption | decide) | with_reducible exact DL.fSet_0 | with_reducible exact DL.fSet_1 | with_reducible exact DL.fSet_2 | with_reducible exact DL.fGet_2 | rfl))
    | ((with_reducible apply DL.opN_any); rfl; rfl; (first | with_reducible exact DL.catL_ok (by first | assumption | decide | (simp only [List.length_cons, List.length_nil, DL.LIM] at *; omega)) | rfl))
    | ((with_reducible apply DL.c1_any); rfl; (first | with_reducible exact DL.ord_sign _ | rfl))
    | ((with_reducible apply DL.optk_ok); rfl)
    | ((with_reducible apply DL.getk_ok); rfl; (first | with_reducible exact DL.dMod_ok (by first | assumption | decide) | with_reducible exact DL.dIx_L0 | with_reducible exact DL.dIx_L1 | with_reducible exact DL.dIx_L2 | with_reducible exact DL.dIx_L3 | with_reducible exact DL.dIx_T0 | with_reducible exact DL.dIx_T1 | with_reducible exact DL.dIx_T2 | with_reducible exact DL.dIx_T3 | with_reducible exact DL.dMul_r (by decide) | with_reducible exact DL.dMul_l (by decide) | with_reducible exact DL.dPow_ok (by decide) | with_reducible exact DL.dFdiv_ok (by first | assumption | decide) | with_reducible exact DL.fSet_0 | with_reducible exact DL.fSet_1 | with_reducible exact DL.fSet_2 | with_reducible exact DL.fGet_2 | rfl))
    | ((with_reducible apply DL.ls_ok); rfl; (first | with_reducible exact DL.dMod_ok (by first | assumption | decide) | with_reducible exact DL.dIx_L0 | with_reducible exact DL.dIx_L1 | with_reducible exact DL.dIx_L2 | with_reducible exact DL.dIx_L3 | with_reducible exact DL.dIx_T0 | with_reducible exact DL.dIx_T1 | with_reducible exact DL.dIx_T2 | with_reducible exact DL.dIx_T3 | with_reducible exact DL.dMul_r (by decide) | with_reducible exact DL.dMul_l (by decide) | with_reducible exact DL.dPow_ok (by decide) | with_reducible exact DL.dFdiv_ok (by first | assumption | decide) | with_reducible exact DL.fSet_0 | with_reducible exact DL.fSet_1 | with_reducible exact DL.fSet_2 | with_reducible exact DL.fGet_2 | rfl))
    | ((with_reducible apply DL.callk_ok); (simp [DL.ownIx]); rfl)
    | ((with_reducible apply DL.ws_tgN); rfl; assumption)
    | ((with_reducible apply DL.lck_ok); (simp [DL.noOwn, *]; done); rfl))

section
set_option maxRecDepth 100000
set_option maxHeartbeats 200000
namespace W
open PySem L2 DL TL T64
/-! ### records -/
/-- a plain text, not long -/
structure G (x : Str) : Prop where
  asc : ∀ c ∈ tl x, c < 127
  len : x.length ≤ 10000
theorem G.ok {x : Str} (h : G x) : PyData.strOk x = true := by
  unfold PyData.strOk
  rw [Array.all_eq_true']
  intro c hc
  have := h.asc c (by simpa using hc)
  simp
  omega
theorem G.shp {x : Str} (h : G x) : SeqAt.shaped (.str x) = true := shaped_str h.ok
theorem g_of {l : List Nat} (h : ∀ c ∈ l, c < 127) (hl : l.length ≤ 10000) : G ⟨l.toArray⟩ := ⟨h, by rw [len_tl]; exact hl⟩
theorem eqv_str (x y : Str) : PyData.eqv (.str x) (.str y) = (x == y) := by simp [PyData.eqv]
theorem emp_shp : SeqAt.shaped (.str (Str.ofString "")) = true := by decide +kernel
theorem emp_beq {x : Str} : (x == Str.ofString "") = (tl x).isEmpty := by
  have e : tl (Str.ofString "") = [] := by decide +kernel
  cases h : (tl x).isEmpty with
  | true =>
    have : x = Str.ofString "" := ext_tl (by rw [e]; simpa using h)
    simp [this]
  | false =>
    have : x ≠ Str.ofString "" := fun z => by rw [z, e] at h; simp at h
    simpa using this
theorem bools_all (l : List Nat) (p : Nat → Bool) : boolsD (l.map fun c => PyData.bool (p c)) = some (l.map p) := by
  induction l with
  | nil => rfl
  | cons c l ih => show (boolsD _).map _ = _; rw [ih]; rfl
theorem flat_one {α : Type} (l : List α) (f : α → Dt) : (l.flatMap fun x => [f x]) = l.map f := by induction l <;> simp_all
/-- of a sign: its number -/
def sgn : Dt → Nat
  | .str x => x.cps.getD 0 0
  | _ => 0
theorem sgn_ok (c : Nat) : sgn (.str ⟨#[c]⟩) = c := rfl
theorem isrec_ok {x : Str} (h : G x) : WpF m_is_record [.imm (.str x)] fun r out => r = .val (.bool (isRec (tl x))) ∧ out = [.imm (.str x)] := by
  unfold m_is_record
  refine wpF_of fun K kr kn => ?_
  unfold b_is_record
  repeat (walk_at "dl one")
  rw [eqv_str, emp_beq]
  repeat (walk_at "dl one")
  refine if_ok (fun e => ?_) (fun e => ?_)
  · repeat (walk_at "dl one")
    exact kr _ _ ⟨by unfold isRec; rw [e]; rfl, rfl⟩
  · repeat (walk_at "dl one")
    refine wp_lc_flat (fun d => [.bool (decide (32 ≤ sgn d) && decide (sgn d ≤ 126))]) (fun _ => Nat.le_refl 1) ?_ (by intro g hg; simp at hg) (fun d hd acc ha => ?_) ?_
    · have := h.len; rw [len_tl] at this; simp [signD, LIM]; simp [tl] at this; omega
    · obtain ⟨c, hc, rfl⟩ := List.mem_map.mp hd
      refine ⟨_, rfl, ?_⟩
      unfold el_is_record_1
      repeat (walk_at "dl one")
      refine if_ok (fun e1 => ?_) (fun e1 => ?_)
      · have h1 := of_decide_eq_true e1
        repeat (walk_at "dl one")
        refine ⟨ha, ?_, rfl⟩
        show acc ++ [PyData.bool (decide ((c : Int) ≤ 126))] = _
        rw [sgn_ok]
        congr 3
        rw [Bool.eq_iff_iff]
        simp
        omega
      · have h1 := of_decide_eq_false e1
        refine ⟨ha, ?_, rfl⟩
        rw [sgn_ok]
        congr 3
        rw [Bool.eq_iff_iff]
        simp
        omega
    · have e2 : (signD x).flatMap (fun d => [PyData.bool (decide (32 ≤ sgn d) && decide (sgn d ≤ 126))]) = (tl x).map fun c => PyData.bool (decide (32 ≤ c) && decide (c ≤ 126)) := by
        rw [flat_one, signD, List.map_map]
        rfl
      rw [e2]
      repeat (walk_at "dl one")
      refine c1_any rfl (show dAll (.list ((tl x).map fun c => PyData.bool (decide (32 ≤ c) && decide (c ≤ 126)))) = some (.bool (((tl x).map fun c => (decide (32 ≤ c) && decide (c ≤ 126))).all id)) from ?_) ?_
      · show (boolsD _).map _ = _
        rw [bools_all]
        rfl
      repeat (walk_at "dl one")
      refine kr _ _ ⟨?_, rfl⟩
      unfold isRec
      rw [e, List.all_map]
      rfl
/-- the law's own test -/
theorem leS_ok {a b : Str} : dLeS (.str a) (.str b) = some (.bool (strLe a b)) := rfl
theorem le_sign (a b : Nat) : strLe ⟨#[a]⟩ ⟨#[b]⟩ = decide (a ≤ b) := by
  unfold strLe
  rw [Bool.eq_iff_iff]
  simp only [Bool.not_eq_true', decide_eq_false_iff_not, decide_eq_true_eq]
  constructor
  · intro h
    rcases Nat.lt_or_ge b a with k | k
    · exact absurd (by show [b] < [a]; exact List.Lex.rel k) h
    · exact k
  · intro h k
    have k : [b] < [a] := k
    cases k with
    | rel k => omega
    | cons k => cases k
theorem sp_eq : (Str.ofString " ") = ⟨#[32]⟩ := by decide +kernel
theorem td_eq : (Str.ofString "~") = ⟨#[126]⟩ := by decide +kernel
theorem lisrec_ok {x : Str} (h : G x) : WpF m__law_is_record [.imm (.str x)] fun r out => r = .val (.bool (isRec (tl x))) ∧ out = [.imm (.str x)] := by
  unfold m__law_is_record
  refine wpF_of fun K kr kn => ?_
  unfold b__law_is_record
  repeat (walk_at "dl one")
  rw [eqv_str, emp_beq]
  repeat (walk_at "dl one")
  refine if_ok (fun e => ?_) (fun e => ?_)
  · repeat (walk_at "dl one")
    refine wp_lc_flat (fun d => if (decide (32 ≤ sgn d) && decide (sgn d ≤ 126)) = true then [] else [d]) (fun d => by split <;> simp) ?_ (by intro g hg; simp at hg) (fun d hd acc ha => ?_) ?_
    · have := h.len; rw [len_tl] at this; simp [signD, LIM]; simp [tl] at this; omega
    · obtain ⟨c, hc, rfl⟩ := List.mem_map.mp hd
      refine ⟨_, rfl, ?_⟩
      unfold el__law_is_record_1
      rw [sp_eq, td_eq]
      repeat (walk_at "dl one")
      rw [le_sign]
      refine if_ok (fun e1 => ?_) (fun e1 => ?_)
      · have h1 := of_decide_eq_true e1
        repeat (walk_at "dl one")
        rw [le_sign]
        refine if_ok (fun e2 => ?_) (fun e2 => ?_)
        · have h2 : ¬ c ≤ 126 := by simpa using e2
          repeat (walk_at "dl one")
          refine ⟨ha, ?_, rfl⟩
          rw [if_neg (by rw [sgn_ok]; simp; omega)]
        · have h2 : c ≤ 126 := by simpa using e2
          refine ⟨?_, rfl⟩
          rw [if_pos (by rw [sgn_ok]; simp; omega)]
          simp
      · have h1 := of_decide_eq_false e1
        repeat (walk_at "dl one")
        refine ⟨ha, ?_, rfl⟩
        rw [if_neg (by rw [sgn_ok]; simp; omega)]
    · repeat (walk_at "dl one")
      have mem : ∀ d ∈ (signD x).flatMap (fun d => if (decide (32 ≤ sgn d) && decide (sgn d ≤ 126)) = true then [] else [d]), ∃ c ∈ tl x, d = .str ⟨#[c]⟩ ∧ (decide (32 ≤ c) && decide (c ≤ 126)) = false := fun d hd => by
        obtain ⟨d', h1, h2⟩ := List.mem_flatMap.mp hd
        obtain ⟨c, hc, rfl⟩ := List.mem_map.mp h1
        split at h2
        · simp at h2
        · rename_i k
          simp at h2
          exact ⟨c, hc, h2, by rw [sgn_ok] at k; exact Bool.eq_false_iff.mpr k⟩
      have canL : ∀ l : List Dt, (∀ d ∈ l, ∃ c ∈ tl x, d = .str ⟨#[c]⟩) → PyData.canLayAll0 l = true ∧ PyData.depthAll l = 0 := fun l hl => by
        induction l with
        | nil => simp [PyData.canLayAll0, PyData.depthAll]
        | cons d l ih =>
          obtain ⟨c, hc, rfl⟩ := hl d (by simp)
          obtain ⟨k1, k2⟩ := ih fun d hd => hl d (by simp [hd])
          have := h.asc c hc
          simp [PyData.canLayAll0, PyData.depthAll, PyData.canLay0, PyData.strOk, PyData.depth, k1, k2]
          omega
      obtain ⟨k1, k2⟩ := canL _ fun d hd => let ⟨c, hc, e, _⟩ := mem d hd; ⟨c, hc, e⟩
      refine op_any rfl rfl (dEq_ok ?_ (by decide +kernel)) ?_
      · show (PyData.canLay0 (.list _) && decide (PyData.depth (.list _) ≤ 64)) = true
        simp only [PyData.canLay0, PyData.depth, k1, k2]
        rfl
      repeat (walk_at "dl one")
      refine kr _ _ ⟨?_, rfl⟩
      have e0 : (tl x).isEmpty = false := by simpa using e
      unfold isRec
      rw [e0]
      congr 2
      generalize hfm : (signD x).flatMap (fun d => if (decide (32 ≤ sgn d) && decide (sgn d ≤ 126)) = true then [] else [d]) = fm at mem ⊢
      cases fm with
      | nil =>
        show true = _
        rw [Bool.not_false, Bool.true_and]
        refine (List.all_eq_true.mpr fun c hc => ?_).symm
        have q := List.flatMap_eq_nil_iff.mp hfm (.str ⟨#[c]⟩) (List.mem_map.mpr ⟨c, hc, rfl⟩)
        split at q
        · rename_i k; rw [sgn_ok] at k; exact k
        · simp at q
      | cons d fm =>
        show false = _
        obtain ⟨c, hc, _, k⟩ := mem d (by simp)
        rw [Bool.not_false, Bool.true_and]
        refine (List.all_eq_false.mpr ⟨c, hc, ?_⟩).symm
        simpa using k
  · repeat (walk_at "dl one")
    refine kr _ _ ⟨?_, rfl⟩
    unfold isRec
    have e : (tl x).isEmpty = true := by simpa using e
    rw [e]
    rfl
end W
end
section
set_option maxRecDepth 100000
set_option maxHeartbeats 200000
namespace W
open PySem L2 DL TL T64
/-! ### journals -/
def mk (l : List Nat) : Str := ⟨l.toArray⟩
theorem tl_mk' (l : List Nat) : tl (mk l) = l := rfl
theorem mk_len (l : List Nat) : (mk l).length = l.length := len_tl _
def numS (i : Int) : Str := toString i
theorem tl_numS (i : Int) : tl (numS i) = num i := rfl
theorem log_small {n : Nat} (h : n < 2 ^ 64) : n.log2 < 1920 := by
  by_cases e : n = 0
  · subst e; simp
  · have := (Nat.log2_lt e).mpr h
    omega
theorem dStr_ok {i : Int} (h0 : 0 ≤ i) (h1 : i < 2 ^ 64) : dStr (.int i) = some (.str (numS i)) := by
  show (if i.natAbs.log2 < 1920 then some (PyData.str (numS i)) else none) = _
  rw [if_pos (log_small (by omega))]
theorem num_len {i : Int} (h0 : 0 ≤ i) (h1 : i < 2 ^ 64) : (numS i).length ≤ 20 := by
  rw [len_tl, tl_numS, num_eq h0]
  exact numL_len (by decide) (by have : (2 : Int) ^ 64 < 10 ^ 20 := by decide
                                 omega)
theorem nl_eq : (Str.ofString "\n") = ⟨#[10]⟩ := by decide +kernel
def lineS (i a : Int) (r : List Nat) : Str := mk (lineL i a r ++ [10])
def lineSs (i a : Int) : List (List Nat) → List Str
  | [] => []
  | r :: rs => lineS i a r :: lineSs (i + 1) (sumB a r) rs
theorem lineSs_flat : ∀ (rs : List (List Nat)) (i a : Int), ((lineSs i a rs).map tl).flatten = jour i a rs
  | [], _, _ => rfl
  | r :: rs, i, a => by
    show tl (lineS i a r) ++ ((lineSs (i + 1) (sumB a r) rs).map tl).flatten = _
    rw [lineSs_flat rs]
    show (lineL i a r ++ [10]) ++ jour (i + 1) (sumB a r) rs = lineL i a r ++ 10 :: jour (i + 1) (sumB a r) rs
    simp
theorem lineSs_len : ∀ (rs : List (List Nat)) (i a : Int), (lineSs i a rs).length = rs.length
  | [], _, _ => rfl
  | r :: rs, i, a => by simp [lineSs, lineSs_len rs]
theorem line_len (i a : Int) (r : List Nat) : r.length + 2 ≤ (lineL i a r).length := by
  unfold lineL
  simp
  omega
theorem jour_ge : ∀ (rs : List (List Nat)) (i a : Int), rs.length ≤ (jour i a rs).length
  | [], _, _ => by simp
  | r :: rs, i, a => by
    have := jour_ge rs (i + 1) (sumB a r)
    simp [jour]
    omega
theorem line_eq {i a : Int} {r : Str} : (((((numS i ++ ⟨#[32]⟩) ++ numS (sumB a (tl r))) ++ ⟨#[32]⟩) ++ r) ++ ⟨#[10]⟩ : Str) = lineS i a (tl r) := by
  refine ext_tl ?_
  simp only [tl_append, tl_numS]
  show _ = lineL i a (tl r) ++ [10]
  unfold lineL
  simp
  rfl
theorem app_len (x y : Str) : (x ++ y).length = x.length + y.length := by rw [len_tl, len_tl x, len_tl y, tl_append, List.length_append]
theorem one_len (c : Nat) : (⟨#[c]⟩ : Str).length = 1 := rfl
theorem fApp_ok {ds : List Dt} {x : Dt} (h : ds.length < LIM) : fApp ds x = some (.none, ds ++ [x]) := if_pos h
/-- the items of an enumerate from k -/
def items (k : Int) : List Str → List Dt
  | [] => []
  | r :: rs => .tuple [.int k, .str r] :: items (k + 1) rs
theorem enum_items (rs : List Str) : enumD (rs.map fun r => .str r) = items 0 rs := by
  have go : ∀ (rs : List Str) (n : Nat), (((rs.map fun r => PyData.str r).zipIdx n).map fun x => PyData.tuple [.int (x.2 : Nat), x.1]) = items (n : Int) rs := by
    intro rs
    induction rs with
    | nil => intro n; rfl
    | cons r rs ih =>
      intro n
      rw [List.map_cons, List.zipIdx_cons, List.map_cons, ih (n + 1)]
      rfl
  exact go rs 0
theorem jloop {d : Dt} : ∀ (rs : List Str) (i a : Int) (acc : List Dt) (s3 s4 : SV) (Q : Out → En → Prop), 0 ≤ i → i + rs.length ≤ 1000000 → 0 ≤ a → a < 1000000007 → acc.length + rs.length ≤ LIM → (∀ r ∈ rs, r.length ≤ 100000) → isPin s3 = false → isPin s4 = false →
    (∀ s3' s4', isPin s3' = false → isPin s4' = false → Q .nx [.imm d, .lst false (acc ++ (lineSs i a (rs.map tl)).map fun y => .str y), .imm (.int (sumsB a (rs.map tl))), s3', s4']) →
    Wp (mForL (mgT [(mgN 3), (mgN 4)]) lb_journal_of_1 (items i rs)) [.imm d, .lst false acc, .imm (.int a), s3, s4] Q := by
  intro rs
  induction rs with
  | nil => intro i a acc s3 s4 Q _ _ _ _ _ _ p3 p4 q; exact wp_forL_nil.mpr (by simpa [lineSs, sumsB] using q s3 s4 p3 p4)
  | cons r rs ih =>
    intro i a acc s3 s4 Q hi hn h0 h1 hl hr p3 p4 q
    have sr := sumB_range (tl r) a h0 h1
    have hrl := hr r (by simp)
    simp only [List.length_cons] at hn hl
    refine wp_forL_cons.mpr ⟨[.imm d, .lst false acc, .imm (.int a), .imm (.int i), .imm (.str r)], by simp [mgT, mgs, mgN, p3, p4], ?_⟩
    unfold lb_journal_of_1
    repeat (walk_at "dl one")
    refine (sum_ok a r).mono fun rr out ⟨e1, e2⟩ => ?_
    subst e1 e2
    rw [sp_eq, nl_eq]
    repeat (walk_at "dl one")
    refine c1_any rfl (dStr_ok hi (by omega)) ?_
    repeat (walk_at "dl one")
    have l1 := num_len hi (by omega)
    have l2 := num_len sr.1 (by omega)
    refine op_any rfl rfl (dAdd_str ?_) ?_
    · simp only [one_len]; show _ ≤ 1000000; omega
    repeat (walk_at "dl one")
    refine c1_any rfl (dStr_ok sr.1 (by omega)) ?_
    repeat (walk_at "dl one")
    refine op_any rfl rfl (dAdd_str ?_) ?_
    · simp only [app_len, one_len]; show _ ≤ 1000000; omega
    repeat (walk_at "dl one")
    refine op_any rfl rfl (dAdd_str ?_) ?_
    · simp only [app_len, app_len, one_len]; show _ ≤ 1000000; omega
    repeat (walk_at "dl one")
    refine op_any rfl rfl (dAdd_str ?_) ?_
    · simp only [app_len, app_len, app_len, one_len]; show _ ≤ 1000000; omega
    repeat (walk_at "dl one")
    refine op_any rfl rfl (dAdd_str ?_) ?_
    · simp only [app_len, app_len, app_len, app_len, one_len]; show _ ≤ 1000000; omega
    rw [line_eq]
    repeat (walk_at "dl one")
    refine ls_ok rfl (fApp_ok ?_) ?_
    · omega
    repeat (walk_at "dl one")
    refine after_nx ?_
    refine ih (i + 1) (sumB a (tl r)) _ _ _ Q (by omega) (by omega) sr.1 sr.2 (by simp; omega) (fun x hx => hr x (by simp [hx])) rfl rfl fun s3' s4' p3' p4' => ?_
    have := q s3' s4' p3' p4'
    simpa [lineSs, sumsB] using this
theorem seqD_strs {d : Dt} {rs : List Str} (h : seqD d = some (rs.map fun r => .str r)) : (brD ([SV.imm d] ++ [SV.no, SV.no, SV.no, SV.no]) (BR.val d)).bind seqD = some (rs.map fun r => .str r) := h
theorem strsD_map (l : List Str) : strsD (l.map fun y => PyData.str y) = some l := by
  induction l with
  | nil => rfl
  | cons x l ih => show (strsD _).map _ = _; rw [ih]; rfl
theorem joinL_nil : ∀ l : List (List Nat), joinL [] l = l.flatten
  | [] => rfl
  | [p] => by simp [joinL]
  | p :: q :: r => by
    show p ++ ([] ++ joinL [] (q :: r)) = _
    rw [joinL_nil (q :: r)]
    simp
theorem tl_emp : tl (Str.ofString "") = [] := by decide +kernel
theorem join_nil (l : List Str) : tl (PySem.Txt.join (Str.ofString "") l) = (l.map tl).flatten := by rw [join_eq, tl_join, tl_emp, joinL_nil]
theorem sum_len (l : List Str) : (l.map (·.length)).sum = ((l.map tl).flatten).length := by
  induction l with
  | nil => rfl
  | cons x l ih => simp only [List.map_cons, List.sum_cons, List.flatten_cons, List.length_append, ih, len_tl x]
def jtxt (rs : List Str) : Str := mk (jour 0 0 (rs.map tl))
theorem rec_le : ∀ (rs : List (List Nat)) (i a : Int), ∀ r ∈ rs, r.length ≤ (jour i a rs).length
  | [], _, _, r, h => by simp at h
  | q :: rs, i, a, r, h => by
    rcases List.mem_cons.mp h with rfl | h
    · have := line_len i a r; simp [jour]; omega
    · have := rec_le rs (i + 1) (sumB a q) r h; simp [jour]; omega
theorem journal_ok {d : Dt} {rs : List Str} (hd : seqD d = some (rs.map fun r => .str r)) (hj : (jour 0 0 (rs.map tl)).length ≤ 100000) : WpF m_journal_of [.imm d] fun r out => r = .val (.str (jtxt rs)) ∧ out = [.imm d] := by
  unfold m_journal_of
  refine wpF_of fun K kr kn => ?_
  unfold b_journal_of
  have hn := jour_ge (rs.map tl) 0 0
  rw [List.length_map] at hn
  repeat (walk_at "dl one")
  refine optk_ok hd ?_
  rw [enum_items]
  refine fork_ok ?_
  refine jloop rs 0 0 [] .no .no _ (by omega) (by omega) (by omega) (by omega) (by simp [LIM]; omega) (fun r hr => ?_) rfl rfl fun s3 s4 p3 p4 => ?_
  · have := rec_le (rs.map tl) 0 0 (tl r) (List.mem_map.mpr ⟨r, hr, rfl⟩)
    rw [len_tl]; omega
  repeat (walk_at "dl one")
  have hsum : ((lineSs 0 0 (rs.map tl)).map (·.length)).sum + (lineSs 0 0 (rs.map tl)).length * (Str.ofString "").length ≤ LIM := by
    rw [sum_len, lineSs_flat, len_tl, tl_emp]
    simp [LIM]
    omega
  refine ⟨_, rfl, optk_ok (show dJoin (Str.ofString "") (.list ([] ++ (lineSs 0 0 (rs.map tl)).map fun y => .str y)) = some (.str (jtxt rs)) from ?_) ?_⟩
  · unfold dJoin
    rw [List.nil_append]
    show (match strsD _ with | some ys => _ | none => _) = _
    rw [strsD_map]
    dsimp only
    rw [if_pos hsum]
    congr 2
    exact ext_tl (by rw [join_nil, lineSs_flat]; rfl)
  repeat (walk_at "dl one")
  exact kr _ _ ⟨rfl, rfl⟩
/-- the law's own journal -/
theorem ljloop {d : Dt} : ∀ (rs : List Str) (i a : Int) (t : Str) (s3 s4 : SV) (Q : Out → En → Prop), 0 ≤ i → i + rs.length ≤ 1000000 → 0 ≤ a → a < 1000000007 → t.length + (jour i a (rs.map tl)).length ≤ 200000 → isPin s3 = false → isPin s4 = false →
    (∀ s3' s4', isPin s3' = false → isPin s4' = false → Q .nx [.imm d, .imm (.str (mk (tl t ++ jour i a (rs.map tl)))), .imm (.int (sumsB a (rs.map tl))), s3', s4']) →
    Wp (mForL (mgT [(mgN 3), (mgN 4)]) lb__law_journal_1 (items i rs)) [.imm d, .imm (.str t), .imm (.int a), s3, s4] Q := by
  intro rs
  induction rs with
  | nil =>
    intro i a t s3 s4 Q _ _ _ _ _ p3 p4 q
    have := q s3 s4 p3 p4
    have e : mk (tl t ++ jour i a ([].map tl)) = t := ext_tl (by rw [tl_mk']; simp [jour])
    rw [e] at this
    exact wp_forL_nil.mpr (by simpa [sumsB] using this)
  | cons r rs ih =>
    intro i a t s3 s4 Q hi hn h0 h1 hl p3 p4 q
    have sr := sumB_range (tl r) a h0 h1
    have hll := line_len i a (tl r)
    have hrr : (jour i a ((r :: rs).map tl)).length = (lineL i a (tl r)).length + 1 + (jour (i + 1) (sumB a (tl r)) (rs.map tl)).length := by simp [jour]; omega
    have hrl := len_tl r
    simp only [List.length_cons] at hn
    refine wp_forL_cons.mpr ⟨[.imm d, .imm (.str t), .imm (.int a), .imm (.int i), .imm (.str r)], by simp [mgT, mgs, mgN, p3, p4], ?_⟩
    unfold lb__law_journal_1
    repeat (walk_at "dl one")
    refine (lsum_ok a r).mono fun rr out ⟨e1, e2⟩ => ?_
    subst e1 e2
    rw [sp_eq, nl_eq]
    repeat (walk_at "dl one")
    refine c1_any rfl (dStr_ok hi (by omega)) ?_
    repeat (walk_at "dl one")
    have l1 := num_len hi (by omega)
    have l2 := num_len sr.1 (by omega)
    refine op_any rfl rfl (dAdd_str ?_) ?_
    · show _ ≤ 1000000; omega
    repeat (walk_at "dl one")
    refine op_any rfl rfl (dAdd_str ?_) ?_
    · simp only [app_len, one_len]; show _ ≤ 1000000; omega
    repeat (walk_at "dl one")
    refine c1_any rfl (dStr_ok sr.1 (by omega)) ?_
    repeat (walk_at "dl one")
    refine op_any rfl rfl (dAdd_str ?_) ?_
    · simp only [app_len, one_len]; show _ ≤ 1000000; omega
    repeat (walk_at "dl one")
    refine op_any rfl rfl (dAdd_str ?_) ?_
    · simp only [app_len, one_len]; show _ ≤ 1000000; omega
    repeat (walk_at "dl one")
    refine op_any rfl rfl (dAdd_str ?_) ?_
    · simp only [app_len, one_len]; show _ ≤ 1000000; omega
    repeat (walk_at "dl one")
    refine op_any rfl rfl (dAdd_str ?_) ?_
    · simp only [app_len, one_len]; show _ ≤ 1000000; omega
    have e : (((((((t ++ numS i) ++ ⟨#[32]⟩) ++ numS (sumB a (tl r))) ++ ⟨#[32]⟩) ++ r) ++ ⟨#[10]⟩ : Str)) = mk (tl t ++ (lineL i a (tl r) ++ [10])) := by
      refine ext_tl ?_
      simp only [tl_append, tl_numS, tl_mk']
      unfold lineL
      simp
      rfl
    rw [e]
    repeat (walk_at "dl one")
    refine after_nx ?_
    refine ih (i + 1) (sumB a (tl r)) _ _ _ Q (by omega) (by omega) sr.1 sr.2 (by rw [mk_len, List.length_append, List.length_append, List.length_singleton, ← len_tl t]; omega) rfl rfl fun s3' s4' p3' p4' => ?_
    have := q s3' s4' p3' p4'
    have e2 : mk (tl t ++ jour i a ((r :: rs).map tl)) = mk (tl (mk (tl t ++ (lineL i a (tl r) ++ [10]))) ++ jour (i + 1) (sumB a (tl r)) (rs.map tl)) := by
      congr 1
      rw [tl_mk']
      simp [jour]
    rw [e2] at this
    exact this
theorem ljournal_ok {d : Dt} {rs : List Str} (hd : seqD d = some (rs.map fun r => .str r)) (hj : (jour 0 0 (rs.map tl)).length ≤ 200000) : WpF m__law_journal [.imm d] fun r out => r = .val (.str (jtxt rs)) ∧ out = [.imm d] := by
  unfold m__law_journal
  refine wpF_of fun K kr kn => ?_
  unfold b__law_journal
  have hn := jour_ge (rs.map tl) 0 0
  rw [List.length_map] at hn
  repeat (walk_at "dl one")
  refine optk_ok hd ?_
  rw [enum_items]
  refine fork_ok ?_
  refine ljloop rs 0 0 (Str.ofString "") .no .no _ (by omega) (by omega) (by omega) (by omega) (by rw [len_tl, tl_emp]; simp; omega) rfl rfl fun s3 s4 p3 p4 => ?_
  repeat (walk_at "dl one")
  refine kr _ _ ⟨?_, rfl⟩
  rw [tl_emp]
  rfl
end W
end
section
set_option maxRecDepth 100000
set_option maxHeartbeats 200000
namespace W
open PySem L2 DL TL T64
/-! ### what is opened -/
theorem mk_tl' (x : Str) : mk (tl x) = x := ext_tl rfl
theorem g_mk {l m : List Nat} {x : Str} (h : G x) (e : tl x = m) (hs : ∀ c ∈ l, c ∈ m) (hl : l.length ≤ m.length) : G (mk l) :=
  ⟨fun c hc => h.asc c (by rw [e]; exact hs c hc), by rw [mk_len]; have := h.len; rw [len_tl, e] at this; omega⟩
theorem num_asc {i : Int} (h : 0 ≤ i) : ∀ c ∈ num i, c < 127 := fun c hc => by
  rcases Nat.lt_or_ge c 127 with k | k
  · exact k
  · exact absurd hc (num_free h (by omega))
theorem shp_num {i : Int} (h : 0 ≤ i) : SeqAt.shaped (.str (numS i)) = true := shaped_str (by
  unfold PyData.strOk
  rw [Array.all_eq_true']
  intro c hc
  have := num_asc h c (by rw [← tl_numS]; simpa [tl] using hc)
  simp
  omega)
theorem str_beq (x : Str) (l : List Nat) : (mk l == x) = decide (l = tl x) := by
  rw [Bool.eq_iff_iff]
  simp only [beq_iff_eq, decide_eq_true_eq]
  exact ⟨fun h => by rw [← h]; rfl, fun h => ext_tl h⟩
theorem recin_ok {x : Str} {i a : Int} (hx : G x) (hi : 0 ≤ i) (hi2 : i ≤ 1000000) (h0 : 0 ≤ a) (h1 : a < 1000000007) : WpF m_record_in [.imm (.str x), .imm (.int i), .imm (.int a)] fun r out =>
    ((r = .val .none ∧ ∀ s, ¬ recOf i a (tl x) s) ∨ ∃ s, r = .val (.str (mk s)) ∧ recOf i a (tl x) s) ∧ out = [.imm (.str x), .imm (.int i), .imm (.int a)] := by
  unfold m_record_in
  refine wpF_of fun K kr kn => ?_
  unfold b_record_in
  have hl := hx.len
  have hs : dSplit2 x (.str ⟨#[32]⟩) (.int 2) = some (PySem.Txt.splitMax x ⟨#[32]⟩ 2) := if_pos ⟨rfl, by decide, by decide, by unfold LIM; omega⟩
  have hc := splitMax2 x 32 (by decide)
  have key := rec_cut2 hi h0 h1 hc
  rw [sp_eq]
  repeat (walk_at "dl one")
  refine optk_ok hs ?_
  rcases hc with ⟨n, e⟩ | ⟨p, q, e0, n1, n2, e⟩ | ⟨p, q, r, e0, n1, n2, e⟩
  · have ey : PySem.Txt.splitMax x ⟨#[32]⟩ 2 = [x] := map_tl_inj e
    have no : ∀ s, ¬ recOf i a (tl x) s := fun s hs => by have := key.1 s hs; rw [e] at this; simp at this
    rw [ey]
    repeat (walk_at "dl one")
    refine if_ok (fun _ => ?_) (fun e => by simp at e)
    repeat (walk_at "dl one")
    exact kr _ _ ⟨.inl ⟨rfl, no⟩, rfl⟩
  · have ey : PySem.Txt.splitMax x ⟨#[32]⟩ 2 = [mk p, mk q] := map_tl_inj e
    have no : ∀ s, ¬ recOf i a (tl x) s := fun s hs => by have := key.1 s hs; rw [e] at this; simp at this
    rw [ey]
    repeat (walk_at "dl one")
    refine if_ok (fun _ => ?_) (fun e => by simp at e)
    repeat (walk_at "dl one")
    exact kr _ _ ⟨.inl ⟨rfl, no⟩, rfl⟩
  · have ey : PySem.Txt.splitMax x ⟨#[32]⟩ 2 = [mk p, mk q, mk r] := map_tl_inj e
    rw [ey]
    have gp : G (mk p) := g_mk hx e0 (by intro c hc; simp [hc]) (by simp)
    have gq : G (mk q) := g_mk hx e0 (by intro c hc; simp [hc]) (by simp; omega)
    have gr : G (mk r) := g_mk hx e0 (by intro c hc; simp [hc]) (by simp; omega)
    have sr := sumB_range r a h0 h1
    repeat (walk_at "dl one")
    refine if_ok (fun e => by simp at e) (fun _ => ?_)
    repeat (walk_at "dl one")
    refine c1_any rfl (dStr_ok hi (by omega)) ?_
    repeat (walk_at "dl one")
    rw [eqv_str, str_beq, tl_numS]
    repeat (walk_at "dl one")
    refine if_ok (fun e2 => ?_) (fun e2 => ?_)
    · have ne : ¬ p = num i := by simpa using e2
      repeat (walk_at "dl one")
      refine kr _ _ ⟨.inl ⟨rfl, fun s hs => ne ?_⟩, rfl⟩
      have := key.1 s hs
      rw [e] at this
      simp at this
      exact this.1
    · have ep : p = num i := by simpa using e2
      repeat (walk_at "dl one")
      refine (isrec_ok gr).mono fun rr out ⟨k1, k2⟩ => ?_
      subst k1 k2
      repeat (walk_at "dl one")
      refine if_ok (fun e3 => ?_) (fun e3 => ?_)
      · have nr : isRec r = false := by simpa [tl_mk'] using e3
        repeat (walk_at "dl one")
        refine kr _ _ ⟨.inl ⟨rfl, fun s hs => ?_⟩, rfl⟩
        have k3 := key.1 s hs
        rw [e] at k3
        simp at k3
        have k4 := hs.2
        rw [← k3.2.2, nr] at k4
        cases k4
      · have yr : isRec r = true := by simpa [tl_mk'] using e3
        repeat (walk_at "dl one")
        refine (sum_ok a (mk r)).mono fun rr out ⟨k1, k2⟩ => ?_
        subst k1 k2
        rw [tl_mk']
        repeat (walk_at "dl one")
        refine c1_any rfl (dStr_ok sr.1 (by omega)) ?_
        repeat (walk_at "dl one")
        rw [eqv_str, str_beq, tl_numS]
        repeat (walk_at "dl one")
        refine if_ok (fun e4 => ?_) (fun e4 => ?_)
        · have eq : q = num (sumB a r) := by simpa using e4
          repeat (walk_at "dl one")
          exact kr _ _ ⟨.inr ⟨r, rfl, key.2 p q r (by rw [e]) ep eq yr⟩, rfl⟩
        · have nq : ¬ q = num (sumB a r) := by simpa using e4
          repeat (walk_at "dl one")
          refine kr _ _ ⟨.inl ⟨rfl, fun s hs => nq ?_⟩, rfl⟩
          have := key.1 s hs
          rw [e] at this
          simp at this
          rw [this.2.1, this.2.2]
theorem oloop {x : Str} : ∀ (ls : List (List Nat)) (i : Nat) (a : Int) (acc : List Dt) (s3 s4 : SV) (Q : Out → En → Prop), acc.length = i → i + ls.length ≤ 100000 → 0 ≤ a → a < 1000000007 → (∀ l ∈ ls, G (mk l)) → isPin s3 = false → isPin s4 = false →
    (∀ rs a' s3' s4', Opens (i : Int) a ls rs → isPin s3' = false → isPin s4' = false → Q .nx [.imm (.str x), .lst false (acc ++ rs.map fun r => .str (mk r)), .imm (.int a'), s3', s4']) →
    Wp (mForL (mgN 3) lb_opened_1 (ls.map fun l => .str (mk l))) [.imm (.str x), .lst false acc, .imm (.int a), s3, s4] Q := by
  intro ls
  induction ls with
  | nil => intro i a acc s3 s4 Q _ _ _ _ _ p3 p4 q; exact wp_forL_nil.mpr (by simpa using q [] a s3 s4 .nil p3 p4)
  | cons l ls ih =>
    intro i a acc s3 s4 Q ha hn h0 h1 hg p3 p4 q
    simp only [List.length_cons] at hn
    refine wp_forL_cons.mpr ⟨[.imm (.str x), .lst false acc, .imm (.int a), .imm (.str (mk l)), s4], by simp [mgN, p3], ?_⟩
    unfold lb_opened_1
    repeat (walk_at "dl one")
    refine (recin_ok (hg l (by simp)) (i := (acc.length : Int)) (by omega) (by omega) h0 h1).mono fun rr out ⟨k1, k2⟩ => ?_
    subst k2
    rcases k1 with ⟨rfl, no⟩ | ⟨s, rfl, rc⟩
    · have pp : putS 4 (.imm .none) [.imm (.str x), .lst false acc, .imm (.int a), .imm (.str (mk l)), s4] = some [.imm (.str x), .lst false acc, .imm (.int a), .imm (.str (mk l)), .imm .none] := by simp [putS, p4]
      repeat (walk_at "dl one")
      refine ws_tg (ρ2 := [.imm (.str x), .lst false acc, .imm (.int a), .imm (.str (mk l)), .imm .none]) (by simp [mgN, p4, putBack, argSV]) ?_
      repeat (walk_at "dl one")
      refine if_ok (fun _ => ?_) (fun e => by simp [isNoneD] at e)
      repeat (walk_at "dl one")
      refine after_bk ?_
      have := q [] a (.imm (.str (mk l))) (.imm .none) (.stop (by rw [← ha]; exact no)) rfl rfl
      simpa using this
    · repeat (walk_at "dl one")
      refine ws_tg (ρ2 := [.imm (.str x), .lst false acc, .imm (.int a), .imm (.str (mk l)), .imm (.str (mk s))]) (by simp [mgN, p4, putBack, argSV]) ?_
      repeat (walk_at "dl one")
      refine if_ok (fun e => by simp [isNoneD] at e) (fun _ => ?_)
      repeat (walk_at "dl one")
      refine ls_ok rfl (fApp_ok ?_) ?_
      · unfold LIM; omega
      repeat (walk_at "dl one")
      refine (sum_ok a (mk s)).mono fun rr out ⟨k1, k2⟩ => ?_
      subst k1 k2
      rw [tl_mk']
      have sr := sumB_range s a h0 h1
      repeat (walk_at "dl one")
      refine after_nx ?_
      refine ih (i + 1) (sumB a s) _ _ _ Q (by simp [ha]) (by omega) sr.1 sr.2 (fun l hl => hg l (by simp [hl])) rfl rfl fun rs a' s3' s4' op p3' p4' => ?_
      have := q (s :: rs) a' s3' s4' (.go (by rw [← ha]; exact rc) (by exact_mod_cast op)) p3' p4'
      simpa using this
theorem cut_dropLast {α : Type} (xs : List α) (y : α) : cutL (xs ++ [y]) none (some (-1)) = xs := by
  unfold cutL
  have e : HT.sIx (xs ++ [y]).length (xs ++ [y]).length (some (-1)) = xs.length := by
    unfold HT.sIx
    simp only [List.length_append, List.length_singleton]
    rw [if_pos (by decide)]
    omega
  rw [e]
  show ((xs ++ [y]).drop 0).take (xs.length - 0) = xs
  simp
theorem opened_ok {x : Str} (hx : G x) {ls : List (List Nat)} {last : List Nat} (hc : cutc 10 (tl x) = ls ++ [last]) (hl : ∀ l ∈ ls, G (mk l)) (hn : ls.length ≤ 100000) : WpF m_opened [.imm (.str x)] fun r out => ∃ rs, r = .val (.tuple (rs.map fun r => .str (mk r))) ∧ Opens 0 0 ls rs ∧ out = [.imm (.str x)] := by
  unfold m_opened
  refine wpF_of fun K kr kn => ?_
  unfold b_opened
  have hs : dSplit x (.str ⟨#[10]⟩) = some (PySem.Txt.split x ⟨#[10]⟩) := if_pos ⟨rfl, by have := hx.len; unfold LIM; omega⟩
  have es : PySem.Txt.split x ⟨#[10]⟩ = (ls ++ [last]).map mk := by
    refine map_tl_inj ?_
    rw [split_cutc x 10 (by decide), hc, List.map_map]
    have e : (tl ∘ mk) = id := funext fun l => tl_mk' l
    rw [e, List.map_id]
  rw [nl_eq]
  repeat (walk_at "dl one")
  refine optk_ok hs ?_
  rw [es]
  repeat (walk_at "dl one")
  have ec : cutL (((ls ++ [last]).map mk).map fun y => PyData.str y) none (some (-1)) = ls.map fun l => .str (mk l) := by
    rw [List.map_append, List.map_append]
    show cutL (_ ++ [PyData.str (mk last)]) _ _ = _
    rw [cut_dropLast, List.map_map]
    rfl
  rw [ec]
  refine fork_ok ?_
  refine oloop ls 0 0 [] .no .no _ rfl (by omega) (by omega) (by omega) hl rfl rfl fun rs a' s3 s4 op p3 p4 => ?_
  repeat (walk_at "dl one")
  exact kr _ _ ⟨rs, rfl, op, rfl⟩
end W
end
section
set_option maxRecDepth 100000
set_option maxHeartbeats 200000
namespace W
open PySem L2 DL TL T64
/-! ### what the law opens -/
theorem starts_iff {x y : Str} (hy : tl y ≠ []) : PySem.Txt.startswith x y = true ↔ tl y <+: tl x := by
  have k := at_iff (x := x) hy 0
  rw [List.drop_zero] at k
  have e : PySem.Txt.startswith x y = true ↔ PySem.StrLaws.At x y x.length 0 := by
    unfold PySem.Txt.startswith PySem.StrLaws.At
    simp
  rw [e, k]
  unfold pre
  rw [beq_iff_eq]
  constructor
  · intro h; rw [← h]; exact List.take_prefix _ _
  · rintro ⟨t, h⟩; rw [← h]; simp
theorem cutS_from (x : Str) (k : Nat) : cutS x (some (k : Int)) none = mk ((tl x).drop k) := by
  refine ext_tl ?_
  show ((tl x).drop (HT.sIx x.length 0 (some (k : Int)))).take (x.length - HT.sIx x.length 0 (some (k : Int))) = (tl x).drop k
  rw [HT.sIx_nat, len_tl]
  rcases Nat.le_total k (tl x).length with h | h
  · rw [Nat.min_eq_left h, List.take_of_length_le (by rw [List.length_drop]; omega)]
  · rw [Nat.min_eq_right h, List.drop_eq_nil_of_le h, Nat.sub_self, List.take_zero]
theorem dLen_str {x : Str} (h : x.length ≤ LIM) : dLen (.str x) = some (.int (x.length : Int)) := if_pos h
theorem G.lim {x : Str} (h : G x) : x.length ≤ LIM := by have := h.len; unfold LIM; omega
/-- the words of a line -/
theorem parts_mem {c : Nat} : ∀ (n : Nat) (l : List Nat), l.length ≤ n → ∀ w ∈ cutc c l, (∀ d ∈ w, d ∈ l) ∧ w.length ≤ l.length
  | n, l, h => by
    rcases cut_or c l with k | ⟨a, r, rfl, k⟩
    · rw [cutc_last k]
      intro w hw
      simp at hw
      subst hw
      exact ⟨fun d hd => hd, Nat.le_refl _⟩
    · rw [cutc_part k]
      intro w hw
      rcases List.mem_cons.mp hw with rfl | hw
      · exact ⟨fun d hd => by simp [hd], by simp⟩
      · cases n with
        | zero => simp at h
        | succ n =>
          have := parts_mem n r (by simp at h; omega) w hw
          exact ⟨fun d hd => by simp [this.1 d hd], by have := this.2; simp; omega⟩
/-- F found, the lines to come -/
theorem jour_rec (F : List (List Nat)) (r : List Nat) : jour 0 0 (F ++ [r]) = jour 0 0 F ++ (lineL (F.length : Int) (sumsB 0 F) r ++ [10]) := by
  rw [jour_snoc, Int.zero_add]
def stL (F : List (List Nat)) : List Dt := F.map fun r => .str (mk r)
theorem stL_mk (F : List (List Nat)) : stL F = (F.map mk).map fun r => .str r := by unfold stL; rw [List.map_map]; rfl
theorem mk_map (F : List (List Nat)) : (F.map mk).map tl = F := by
  rw [List.map_map]
  have e : (tl ∘ mk) = id := funext fun l => tl_mk' l
  rw [e, List.map_id]
theorem lloop {x : Str} (hx : G x) {last : List Nat} {d1 : Dt} : ∀ (ls F : List (List Nat)) (s3 s4 s5 : SV) (Q : Out → En → Prop), tl x = jour 0 0 F ++ ((ls.map (· ++ [10])).flatten ++ last) → (∀ l ∈ ls, 10 ∉ l) → (∀ r ∈ F, isRec r = true) → isPin s3 = false → isPin s4 = false → isPin s5 = false →
    (∀ rs s3' s4' s5', Opens (F.length : Int) (sumsB 0 F) ls rs → (Q .nx [.imm (.str x), .imm d1, .lst false (stL (F ++ rs)), s3', s4', s5'] ∧ Q (.rt (.val (.tuple (stL (F ++ rs))))) [.imm (.str x), .imm d1, .lst false (stL (F ++ rs)), s3', s4', s5'])) →
    Wp (mForL (mgN 3) lb__law_opened_1 (stL ls)) [.imm (.str x), .imm d1, .lst false (stL F), s3, s4, s5] Q := by
  intro ls
  induction ls with
  | nil => intro F s3 s4 s5 Q _ _ _ _ _ _ q; exact wp_forL_nil.mpr (by simpa using (q [] s3 s4 s5 .nil).1)
  | cons l ls ih =>
    intro F s3 s4 s5 Q hj hf hr p3 p4 p5 q
    have hl := hf l (by simp)
    have s0 := sumsB_range F 0 (by omega) (by omega)
    have hxl := hx.len
    rw [len_tl, hj] at hxl
    have hj2 : tl x = jour 0 0 F ++ (l ++ 10 :: ((ls.map (· ++ [10])).flatten ++ last)) := by rw [hj]; simp
    have gl : G (mk l) := g_mk hx hj2 (by intro c hc; simp [hc]) (by simp; omega)
    have hll : l.length ≤ 10000 := by have := gl.len; rwa [mk_len] at this
    have hFl : (stL F).length = F.length := by simp [stL]
    have hFn := jour_ge F 0 0
    simp at hxl
    have gbe : ∀ c ∈ behind2 l, c ∈ l := fun c hc => by
      unfold behind2 at hc
      split at hc
      · exact List.mem_of_mem_drop hc
      · simp at hc
    have gbl : (behind2 l).length ≤ l.length := by
      unfold behind2
      split
      · simp
      · simp
    have gb : G (mk (behind2 l)) := g_mk gl (tl_mk' l) gbe gbl
    have pr := rec_pre (i := (F.length : Int)) (a := sumsB 0 F) (by omega) s0.1 s0.2 (rest := (ls.map (· ++ [10])).flatten ++ last) hl
    refine wp_forL_cons.mpr ⟨[.imm (.str x), .imm d1, .lst false (stL F), .imm (.str (mk l)), s4, s5], by simp [mgN, p3], ?_⟩
    -- the record of this line
    have ws : PySem.Txt.split (mk l) ⟨#[32]⟩ = (cutc 32 l).map mk := by
      refine map_tl_inj ?_
      rw [split_cutc _ 32 (by decide), mk_map, tl_mk']
    have hs : dSplit (mk l) (.str ⟨#[32]⟩) = some ((cutc 32 l).map mk) := by rw [← ws]; exact if_pos ⟨rfl, by rw [mk_len]; unfold LIM; omega⟩
    unfold lb__law_opened_1
    rw [sp_eq]
    refine ws_mSeq ?_
    refine ws_mAsg ?_
    repeat (walk_at "dl one")
    refine optk_ok hs ?_
    repeat (walk_at "dl one")
    refine ws_tg (ρ2 := [.imm (.str x), .imm d1, .lst false (stL F), .imm (.str (mk l)), .imm (.list (stL (cutc 32 l))), s5]) (by rw [← stL_mk]; simp [mgN, p4]) ?_
    refine ws_nx ?_
    refine ws_mSeq ?_
    have step2 : ∀ R : Out → En → Prop, R .nx [.imm (.str x), .imm d1, .lst false (stL F), .imm (.str (mk l)), .imm (.list (stL (cutc 32 l))), .imm (.str (mk (behind2 l)))] → Wp (mAsg (mIf (mTst (mOp dGt (mB (mC1 dLen (mVB 4))) (mB (ret (.int 2))))) (mSl (mVB 3) (mPart (mOp dAdd (mB (mOp dAdd (mB (mC1 dLen (mB (mOp dIx (mVB 4) (mB (ret (.int 0))))))) (mB (mC1 dLen (mB (mOp dIx (mVB 4) (mB (ret (.int 1))))))))) (mB (ret (.int 2))))) mNoP) (ret (.str ""))) (mgN 5)) [.imm (.str x), .imm d1, .lst false (stL F), .imm (.str (mk l)), .imm (.list (stL (cutc 32 l))), s5] R := fun R hR => by
      have cm := parts_mem (c := 32) l.length l (Nat.le_refl _)
      repeat (walk_at "dl one")
      have eb : behind2 l = (match cutc 32 l with
        | w0 :: w1 :: _ :: _ => l.drop (w0.length + w1.length + 2)
        | _ => []) := rfl
      match hw : cutc 32 l with
      | [] =>
        rw [hw] at eb
        refine if_ok (fun e => by simp [stL] at e) (fun _ => ?_)
        repeat (walk_at "dl one")
        refine ws_tg (ρ2 := [.imm (.str x), .imm d1, .lst false (stL F), .imm (.str (mk l)), .imm (.list (stL [])), .imm (.str (mk (behind2 l)))]) (by rw [eb]; simp [mgN, p5]; rfl) ?_
        rw [hw] at hR
        exact hR
      | [w0] =>
        rw [hw] at eb
        refine if_ok (fun e => by simp [stL] at e) (fun _ => ?_)
        repeat (walk_at "dl one")
        refine ws_tg (ρ2 := [.imm (.str x), .imm d1, .lst false (stL F), .imm (.str (mk l)), .imm (.list (stL [w0])), .imm (.str (mk (behind2 l)))]) (by rw [eb]; simp [mgN, p5]; rfl) ?_
        rw [hw] at hR
        exact hR
      | [w0, w1] =>
        rw [hw] at eb
        refine if_ok (fun e => by simp [stL] at e) (fun _ => ?_)
        repeat (walk_at "dl one")
        refine ws_tg (ρ2 := [.imm (.str x), .imm d1, .lst false (stL F), .imm (.str (mk l)), .imm (.list (stL [w0, w1])), .imm (.str (mk (behind2 l)))]) (by rw [eb]; simp [mgN, p5]; rfl) ?_
        rw [hw] at hR
        exact hR
      | w0 :: w1 :: w2 :: wr =>
        rw [hw] at eb cm hR
        have g0 : (mk w0).length ≤ LIM := by have := (cm w0 (by simp)).2; rw [mk_len]; unfold LIM; omega
        have g1 : (mk w1).length ≤ LIM := by have := (cm w1 (by simp)).2; rw [mk_len]; unfold LIM; omega
        refine if_ok (fun _ => ?_) (fun e => by simp [stL] at e; omega)
        repeat (walk_at "dl one")
        refine op_any rfl rfl (show dIx (.list (stL (w0 :: w1 :: w2 :: wr))) (.int 0) = some (.str (mk w0)) from dIx_L0) ?_
        refine c1_any rfl (dLen_str g0) ?_
        repeat (walk_at "dl one")
        refine op_any rfl rfl (show dIx (.list (stL (w0 :: w1 :: w2 :: wr))) (.int 1) = some (.str (mk w1)) from dIx_L1) ?_
        refine c1_any rfl (dLen_str g1) ?_
        repeat (walk_at "dl one")
        have en : ((mk w0).length : Int) + ((mk w1).length : Int) + 2 = ((w0.length + w1.length + 2 : Nat) : Int) := by rw [mk_len, mk_len]; omega
        rw [en]
        refine optk_ok (show dSl (some (.str (mk l))) (some ((w0.length + w1.length + 2 : Nat) : Int)) none = some (.str (mk (behind2 l))) from ?_) ?_
        · show (if (mk l).length ≤ LIM then _ else _) = _
          rw [if_pos gl.lim, cutS_from, tl_mk', eb]
        refine ws_tg (ρ2 := [.imm (.str x), .imm d1, .lst false (stL F), .imm (.str (mk l)), .imm (.list (stL (w0 :: w1 :: w2 :: wr))), .imm (.str (mk (behind2 l)))]) (by simp [mgN, p5]) ?_
        exact hR
    refine step2 _ (ws_nx ?_)
    repeat (walk_at "dl one")
    refine (lisrec_ok gb).mono fun rr out ⟨k1, k2⟩ => ?_
    subst k1 k2
    rw [tl_mk']
    repeat (walk_at "dl one")
    have hstop : (∀ r, ¬ recOf (F.length : Int) (sumsB 0 F) l r) → Q (.rt (.val (.tuple (stL F)))) [.imm (.str x), .imm d1, .lst false (stL F), .imm (.str (mk l)), .imm (.list (stL (cutc 32 l))), .imm (.str (mk (behind2 l)))] := fun no => by
      have := (q [] (.imm (.str (mk l))) (.imm (.list (stL (cutc 32 l)))) (.imm (.str (mk (behind2 l)))) (.stop no)).2
      simpa using this
    refine if_ok (fun e1 => ?_) (fun e1 => ?_)
    · have nr : isRec (behind2 l) = false := by simpa using e1
      repeat (walk_at "dl one")
      refine after_rt (hstop fun r hrr => ?_)
      have k := (pr.1 r hrr).1
      have k2 := hrr.2
      rw [← k, nr] at k2
      cases k2
    · have yr : isRec (behind2 l) = true := by simpa using e1
      have hcat : (stL F).length + [PyData.str (mk (behind2 l))].length ≤ LIM := by rw [hFl]; simp [LIM]; omega
      repeat (walk_at "dl one")
      show WpF m__law_journal [.imm (.list (stL F ++ [PyData.str (mk (behind2 l))]))] _
      have ecat : stL F ++ [PyData.str (mk (behind2 l))] = (((F ++ [behind2 l]).map mk).map fun r => PyData.str r) := by
        rw [← stL_mk]; simp [stL]
      rw [ecat]
      have hlb := line_len (F.length : Int) (sumsB 0 F) (behind2 l)
      have hj3 : (jour 0 0 (((F ++ [behind2 l]).map mk).map tl)).length ≤ 200000 := by
        rw [mk_map, jour_rec]
        have n1 := num_len (i := (F.length : Int)) (by omega) (by omega)
        have sb := sumB_range (behind2 l) _ s0.1 s0.2
        have n2 := num_len sb.1 (by omega)
        rw [len_tl, tl_numS] at n1 n2
        simp only [List.length_append, List.length_singleton]
        unfold lineL
        simp only [List.length_append, List.length_cons]
        omega
      refine (ljournal_ok rfl hj3).mono fun rr out ⟨k1, k2⟩ => ?_
      subst k1 k2
      repeat (walk_at "dl one")
      have ej : jtxt ((F ++ [behind2 l]).map mk) = mk (jour 0 0 F ++ (lineL (F.length : Int) (sumsB 0 F) (behind2 l) ++ [10])) := by
        unfold jtxt
        rw [mk_map, jour_rec]
      rw [ej]
      have hpre : PySem.Txt.startswith x (mk (jour 0 0 F ++ (lineL (F.length : Int) (sumsB 0 F) (behind2 l) ++ [10]))) = true ↔ (lineL (F.length : Int) (sumsB 0 F) (behind2 l) ++ [10]) <+: (l ++ 10 :: ((ls.map (· ++ [10])).flatten ++ last)) := by
        rw [starts_iff (by rw [tl_mk']; simp), tl_mk', hj2, List.prefix_append_right_inj]
      refine ⟨_, rfl, optk_ok rfl ?_⟩
      repeat (walk_at "dl one")
      refine if_ok (fun e2 => ?_) (fun e2 => ?_)
      · have np : ¬ PySem.Txt.startswith x (mk (jour 0 0 F ++ (lineL (F.length : Int) (sumsB 0 F) (behind2 l) ++ [10]))) = true := by simpa using e2
        repeat (walk_at "dl one")
        refine after_rt (hstop fun r hrr => np (hpre.mpr ?_))
        have k := pr.1 r hrr
        rw [k.1]
        exact k.2
      · have yp : PySem.Txt.startswith x (mk (jour 0 0 F ++ (lineL (F.length : Int) (sumsB 0 F) (behind2 l) ++ [10]))) = true := by simpa using e2
        have rc := pr.2 _ yr (hpre.mp yp)
        repeat (walk_at "dl one")
        refine ls_ok rfl (fApp_ok ?_) ?_
        · rw [hFl]; unfold LIM; omega
        repeat (walk_at "dl one")
        refine after_nx ?_
        have ef : stL F ++ [PyData.str (mk (behind2 l))] = stL (F ++ [behind2 l]) := by simp [stL]
        have eF : jour 0 0 (F ++ [behind2 l]) = jour 0 0 F ++ (l ++ [10]) := by rw [jour_rec, ← rc.1]
        rw [ef]
        refine ih (F ++ [behind2 l]) _ _ _ Q ?_ (fun y hy => hf y (by simp [hy])) ?_ rfl rfl rfl fun rs s3' s4' s5' op => ?_
        · rw [eF, hj2]; simp
        · intro r hr2
          rcases List.mem_append.mp hr2 with h | h
          · exact hr r h
          · simp at h; rw [h]; exact yr
        · have e1 : ((F ++ [behind2 l]).length : Int) = (F.length : Int) + 1 := by simp
          have e2 : sumsB 0 (F ++ [behind2 l]) = sumB (sumsB 0 F) (behind2 l) := by simp [sumsB]
          rw [e1, e2] at op
          have := q (behind2 l :: rs) s3' s4' s5' (.go rc op)
          simpa using this
theorem lopened_ok {x : Str} (hx : G x) {ls : List (List Nat)} {last : List Nat} (hc : cutc 10 (tl x) = ls ++ [last]) (hj : tl x = (ls.map (· ++ [10])).flatten ++ last) (hl : ∀ l ∈ ls, 10 ∉ l) : WpF m__law_opened [.imm (.str x)] fun r out => ∃ rs, r = .val (.tuple (stL rs)) ∧ Opens 0 0 ls rs ∧ out = [.imm (.str x)] := by
  unfold m__law_opened
  refine wpF_of fun K kr kn => ?_
  unfold b__law_opened
  have hs : dSplit x (.str ⟨#[10]⟩) = some (PySem.Txt.split x ⟨#[10]⟩) := if_pos ⟨rfl, by have := hx.len; unfold LIM; omega⟩
  have es : PySem.Txt.split x ⟨#[10]⟩ = (ls ++ [last]).map mk := by
    refine map_tl_inj ?_
    rw [split_cutc x 10 (by decide), hc, mk_map]
  rw [nl_eq]
  repeat (walk_at "dl one")
  refine optk_ok hs ?_
  rw [es]
  repeat (walk_at "dl one")
  have ec : cutL (((ls ++ [last]).map mk).map fun y => PyData.str y) none (some (-1)) = stL ls := by
    rw [List.map_append, List.map_append]
    show cutL (_ ++ [PyData.str (mk last)]) _ _ = _
    rw [cut_dropLast, ← stL_mk]
  rw [ec]
  refine fork_ok ?_
  refine lloop hx (last := last) ls [] .no .no .no _ (by simpa [jour] using hj) hl (by simp) rfl rfl rfl fun rs s3 s4 s5 op => ⟨?_, ?_⟩
  · repeat (walk_at "dl one")
    exact kr _ _ ⟨rs, rfl, op, rfl⟩
  · exact kr _ _ ⟨rs, rfl, op, rfl⟩
end W
end
section
set_option maxRecDepth 100000
set_option maxHeartbeats 200000
namespace W
open PySem L2 DL TL T64
/-! ### a record more; alike -/
theorem vals_snoc (l : List Dt) (d : Dt) : vals (l.map BR.val ++ [BR.val d]) = some (l ++ [d]) := by
  induction l with
  | nil => rfl
  | cons x l ih =>
    show (vals (l.map BR.val ++ [BR.val d])).map (x :: ·) = _
    rw [ih]
    rfl
theorem withrec_ok {x r : Str} (hx : G x) (hr : G r) (yr : isRec (tl r) = true) {ls : List (List Nat)} {last : List Nat} (hc : cutc 10 (tl x) = ls ++ [last]) (hl : ∀ l ∈ ls, G (mk l)) (hn : ls.length ≤ 100000)
    {rs : List (List Nat)} (op : Opens 0 0 ls rs) (hj : (jour 0 0 (rs ++ [tl r])).length ≤ 100000) : WpF m_with_record [.imm (.str x), .imm (.str r)] fun rr out => rr = .val (.str (mk (jour 0 0 (rs ++ [tl r])))) ∧ out = [.imm (.str x), .imm (.str r)] := by
  unfold m_with_record
  refine wpF_of fun K kr kn => ?_
  unfold b_with_record
  repeat (walk_at "dl one")
  refine (opened_ok hx hc hl hn).mono fun rr out ⟨ss, k1, k2, k3⟩ => ?_
  have es := Opens.uniq (by omega) (by omega) (by omega) k2 op
  subst es k1 k3
  repeat (walk_at "dl one")
  refine (isrec_ok hr).mono fun rr out ⟨k1, k2⟩ => ?_
  subst k1 k2
  rw [yr]
  repeat (walk_at "dl one")
  have hn2 := jour_ge (ss ++ [tl r]) 0 0
  have ev : vals ((ss.map fun r => PyData.str (mk r)).map BR.val ++ [BR.val (PyData.str r)]) = some ((ss.map fun r => PyData.str (mk r)) ++ [PyData.str r]) := vals_snoc _ _
  refine valk_ok ev ?_ ?_
  · simp at hn2 ⊢; unfold LIM; omega
  repeat (walk_at "dl one")
  have ej : (ss.map fun r => PyData.str (mk r)) ++ [PyData.str r] = ((ss ++ [tl r]).map mk).map fun y => .str y := by
    simp [mk_tl']
  rw [ej]
  refine (journal_ok rfl (by rw [mk_map]; exact hj)).mono fun rr out ⟨k1, k2⟩ => ?_
  subst k1 k2
  repeat (walk_at "dl one")
  refine kr _ _ ⟨?_, rfl⟩
  unfold jtxt
  rw [mk_map]
mutual
theorem eqv_refl : ∀ d : PyData, d.hasDict = false → PyData.eqv d d = true
  | .none, _ => by simp [PyData.eqv]
  | .bool _, _ => by simp [PyData.eqv]
  | .int _, _ => by simp [PyData.eqv]
  | .str _, _ => by simp [PyData.eqv]
  | .list xs, h => by rw [PyData.eqv]; rw [PyData.hasDict] at h; exact eqvAll_refl xs h
  | .tuple xs, h => by rw [PyData.eqv]; rw [PyData.hasDict] at h; exact eqvAll_refl xs h
  | .dict _, h => by rw [PyData.hasDict] at h; cases h
theorem eqvAll_refl : ∀ ds : List PyData, PyData.hasDictAll ds = false → PyData.eqvAll ds ds = true
  | [], _ => by simp [PyData.eqvAll]
  | d :: ds, h => by
    rw [PyData.hasDictAll, Bool.or_eq_false_iff] at h
    rw [PyData.eqvAll, eqv_refl d h.1, eqvAll_refl ds h.2]
    rfl
end
/-- a datum that == and repr take -/
structure Shn (d : Dt) : Prop where
  shp : SeqAt.shaped d = true
  nod : d.hasDict = false
  rep : dRepr d = some (.str d.shown)
theorem alike_ok {d : Dt} (h : Shn d) : WpF m__law_alike [.imm d, .imm d] fun r out => r = .val (.bool true) ∧ out = [.imm d, .imm d] := by
  unfold m__law_alike
  refine wpF_of fun K kr kn => ?_
  unfold b__law_alike
  repeat (walk_at "dl one")
  refine op_any rfl rfl (dEq_ok h.shp h.shp) ?_
  rw [eqv_refl d h.nod]
  repeat (walk_at "dl one")
  refine c1_any rfl h.rep ?_
  repeat (walk_at "dl one")
  refine c1_any rfl h.rep ?_
  repeat (walk_at "dl one")
  refine kr _ _ ⟨?_, rfl⟩
  rw [eqv_str]
  simp
end W
end
section
set_option maxRecDepth 100000
set_option maxHeartbeats 200000
namespace W
open PySem L2 DL TL T64
/-! ### a drawn record -/
def words : List Str := ["book a world w|region r 1", "race r a 0", "deed r 3 open w r 0", " ", "~", "0", "0 66 a", "x  y ", "|", "\"'\\"]
def signs : Str := " !\"#$&'()*+,-./09:;<=>?@AZ[]^_`az{|}~"
theorem words_ok : ∀ w ∈ words, isRec (tl w) = true ∧ (tl w).length ≤ 30 := by
  have h : (words.all fun w => isRec (tl w) && decide ((tl w).length ≤ 30)) = true := by decide +kernel
  intro w hw
  have := List.all_eq_true.mp h w hw
  simpa using this
theorem signs_ok : (tl signs).all (fun c => decide (32 ≤ c) && decide (c ≤ 126)) = true := by decide +kernel
theorem signs_ne : tl signs ≠ [] := by decide +kernel
theorem signs_len : signs.length ≤ LIM := by decide +kernel
structure Rec (x : Str) : Prop where
  yes : isRec (tl x) = true
  len : (tl x).length ≤ 30
theorem Rec.g {x : Str} (h : Rec x) : G x := ⟨fun c hc => by
  have := h.yes
  unfold isRec at this
  rw [Bool.and_eq_true] at this
  have := List.all_eq_true.mp this.2 c hc
  simp at this
  omega, by rw [len_tl]; have := h.len; omega⟩
theorem rec_ok {bag : List Dt} (h : Bag bag) : WpF m__law_record [.lst true bag] fun r out => ∃ x bag', r = .val (.str x) ∧ Rec x ∧ out = [.lst true bag'] ∧ Bag bag' := by
  unfold m__law_record
  refine wpF_of fun K kr kn => ?_
  unfold b__law_record
  repeat (walk_at "dl one")
  refine (take_ok h (n := 2) (by omega) (by omega)).mono fun rr out ⟨v, bag1, k1, v0, v1, k2, h1⟩ => ?_
  subst k1 k2
  repeat (walk_at "dl one")
  refine if_ok (fun e => ?_) (fun e => ?_)
  · repeat (walk_at "dl one")
    show WpF m__law_some [.lst true bag1, .imm (.list (words.map fun w => .str w))] _
    refine (some_ok h1 (by simp [words]) (by simp [words])).mono fun rr out ⟨d, bag2, k1, hd, k2, h2⟩ => ?_
    subst k1 k2
    repeat (walk_at "dl one")
    obtain ⟨w, hw, rfl⟩ := List.mem_map.mp hd
    exact kr _ _ ⟨w, bag2, rfl, ⟨(words_ok w hw).1, (words_ok w hw).2⟩, rfl, h2⟩
  · repeat (walk_at "dl one")
    refine (take_ok h1 (n := 9) (by omega) (by omega)).mono fun rr out ⟨n, bag2, k1, n0, n1, k2, h2⟩ => ?_
    subst k1 k2
    repeat (walk_at "dl one")
    have hlen : (rangeD 0 (1 + n).toNat).length = (1 + n).toNat := rangeD_len _ _
    refine wp_lcGo (fun done rest acc ρ => ∃ bag', Bag bag' ∧ ρ = [.lst true bag', .imm (.list (words.map fun w => .str w)), .imm (.str signs), .no] ∧ acc.length = done.length ∧ ∃ cs : List Nat, acc = cs.map (fun c => PyData.str ⟨#[c]⟩) ∧ ∀ c ∈ cs, c ∈ tl signs) ⟨bag2, h2, rfl, rfl, [], rfl, by simp⟩ ?_ ?_
    · rintro done d rest acc ρ he ⟨bag3, h3, rfl, ha, cs, rfl, hcs⟩
      refine ⟨_, rfl, ?_⟩
      unfold el__law_record_1
      repeat (walk_at "dl one")
      refine (some_sign h3 signs_ne signs_len).mono fun rr out ⟨c, bag4, k1, hc, k2, h4⟩ => ?_
      subst k1 k2
      repeat (walk_at "dl one")
      have hd : done.length < (1 + n).toNat := by rw [← hlen, he]; simp
      refine ⟨by simp at ha ⊢; unfold LIM; omega, by intro g hg; simp at hg, bag4, h4, rfl, by simp at ha ⊢; exact ha, cs ++ [c], by simp, ?_⟩
      intro c' hc'
      rcases List.mem_append.mp hc' with k | k
      · exact hcs c' k
      · simp at k; rw [k]; exact hc
    · rintro acc ρ ⟨bag3, h3, rfl, ha, cs, rfl, hcs⟩
      repeat (walk_at "dl one")
      rw [hlen] at ha
      simp only [List.length_map] at ha
      have e1 : (cs.map fun c => PyData.str ⟨#[c]⟩) = ((cs.map fun c => (⟨#[c]⟩ : Str)).map fun y => PyData.str y) := by rw [List.map_map]; rfl
      have e2 : ((cs.map fun c => (⟨#[c]⟩ : Str)).map tl).flatten = cs := by
        clear ha hcs e1
        induction cs with
        | nil => rfl
        | cons c cs ih => simp only [List.map_cons, List.flatten_cons, ih]; rfl
      have hsum : ((cs.map fun c => (⟨#[c]⟩ : Str)).map (·.length)).sum + (cs.map fun c => (⟨#[c]⟩ : Str)).length * (Str.ofString "").length ≤ LIM := by
        rw [sum_len, e2, len_tl, tl_emp]
        simp [LIM]
        omega
      refine ⟨_, rfl, optk_ok (show dJoin (Str.ofString "") (.list (cs.map fun c => PyData.str ⟨#[c]⟩)) = some (.str (mk cs)) from ?_) ?_⟩
      · rw [e1]
        unfold dJoin
        show (match strsD _ with | some ys => _ | none => _) = _
        rw [strsD_map]
        dsimp only
        rw [if_pos hsum]
        congr 2
        exact ext_tl (by rw [join_nil, e2]; rfl)
      repeat (walk_at "dl one")
      refine kr _ _ ⟨mk cs, bag3, rfl, ⟨?_, by rw [tl_mk']; omega⟩, rfl, h3⟩
      rw [tl_mk']
      unfold isRec
      rw [Bool.and_eq_true]
      refine ⟨by cases cs with
        | nil => simp at ha; omega
        | cons _ _ => rfl, List.all_eq_true.mpr fun c hc => List.all_eq_true.mp signs_ok c (hcs c hc)⟩
end W
end
section
set_option maxRecDepth 100000
set_option maxHeartbeats 200000
namespace W
open PySem L2 DL TL T64
/-! ### how long a repr is -/
theorem text_le : ∀ (ts : List Str) (k : Nat) (acc : Str), (textFrom k acc ts).length ≤ acc.length + piled ts
  | [], k, acc => Nat.le_refl _
  | t :: r, k, acc => by
    have ih := text_le r (k + 1) (acc ++ (if k > 0 then ", " else "" : String) ++ t)
    have e : (acc ++ (if k > 0 then ", " else "" : String) ++ t : Str).length ≤ acc.length + 2 + t.length := by
      rw [app_len, app_len]
      have : ((if k > 0 then ", " else "" : String) : Str).length ≤ 2 := by split <;> decide +kernel
      omega
    have e2 : piled (t :: r) = t.length + 2 + piled r := piled_cons _ _
    have e3 : textFrom k acc (t :: r) = textFrom (k + 1) (acc ++ (if k > 0 then ", " else "" : String) ++ t) r := rfl
    rw [e3, e2]
    omega
theorem list_le (ts : List Str) : (listText ts).length ≤ piled ts + 2 := by
  unfold listText
  rw [app_len]
  have := text_le ts 0 "["
  have e1 : ("[" : Str).length = 1 := by decide +kernel
  have e2 : ("]" : Str).length = 1 := by decide +kernel
  omega
theorem tup_le (ts : List Str) : (tupleText ts).length ≤ piled ts + 3 := by
  unfold tupleText
  rw [app_len, app_len]
  have e1 : ("(" : Str).length = 1 := by decide +kernel
  have e2 : ((if ts.length == 1 then ",)" else ")" : String) : Str).length ≤ 2 := by split <;> decide +kernel
  have e3 : (Str.join ", " ts).length ≤ piled ts := by
    cases ts with
    | nil => exact Nat.zero_le _
    | cons t r => have := join_length_add (t :: r) (by simp); omega
  omega
mutual
/-- a bound of the repr's length; and that the datum is plain -/
def cost : PyData → Nat
  | .str x => 10 * x.length + 2
  | .list xs => costAll xs + 3
  | .tuple xs => costAll xs + 3
  | .none => 30
  | .bool _ => 30
  | .int _ => 30
  | .dict _ => 30
def costAll : List PyData → Nat
  | [] => 0
  | d :: ds => cost d + 2 + costAll ds
end
mutual
def plain : PyData → Prop
  | .str x => ∀ c ∈ tl x, c < 127
  | .int i => 0 ≤ i ∧ i < 2 ^ 64
  | .list xs => plainAll xs
  | .tuple xs => plainAll xs
  | .none => True
  | .bool _ => True
  | .dict _ => False
def plainAll : List PyData → Prop
  | [] => True
  | d :: ds => plain d ∧ plainAll ds
end
mutual
theorem shown_le : ∀ d : PyData, plain d → d.shown.length ≤ cost d ∧ d.showable = true ∧ d.canLay0 = true ∧ d.hasDict = false
  | .none, _ => by refine ⟨?_, by simp [PyData.showable], by simp [PyData.canLay0], by simp [PyData.hasDict]⟩; rw [PyData.shown, cost]; decide +kernel
  | .bool b, _ => by refine ⟨?_, by simp [PyData.showable], by simp [PyData.canLay0], by simp [PyData.hasDict]⟩; rw [PyData.shown, cost]; cases b <;> decide +kernel
  | .int i, h => by
    rw [plain] at h
    refine ⟨?_, by simp [PyData.showable]; exact log_small (by omega), by simp [PyData.canLay0], by simp [PyData.hasDict]⟩
    rw [PyData.shown, cost]
    have := num_len h.1 h.2
    exact Nat.le_trans this (by omega)
  | .str x, h => by
    rw [plain] at h
    refine ⟨?_, by simp [PyData.showable], ?_, by simp [PyData.hasDict]⟩
    · rw [PyData.shown, cost]
      exact PySem.StrLaws.reprText_len x fun c hc => Nat.lt_trans (h c hc) (by decide)
    · simp only [PyData.canLay0]
      unfold PyData.strOk
      rw [Array.all_eq_true']
      intro c hc
      have := h c (by simpa [tl] using hc)
      simp
      omega
  | .list xs, h => by
    rw [plain] at h
    obtain ⟨k1, k2, k3, k4⟩ := shownAll_le xs h
    refine ⟨?_, by rw [PyData.showable]; exact k2, by rw [PyData.canLay0]; exact k3, by rw [PyData.hasDict]; exact k4⟩
    rw [PyData.shown, cost]
    have := list_le (PyData.shownAll xs)
    omega
  | .tuple xs, h => by
    rw [plain] at h
    obtain ⟨k1, k2, k3, k4⟩ := shownAll_le xs h
    refine ⟨?_, by rw [PyData.showable]; exact k2, by rw [PyData.canLay0]; exact k3, by rw [PyData.hasDict]; exact k4⟩
    rw [PyData.shown, cost]
    have := tup_le (PyData.shownAll xs)
    omega
  | .dict _, h => by rw [plain] at h; exact h.elim
theorem shownAll_le : ∀ ds : List PyData, plainAll ds → piled (PyData.shownAll ds) ≤ costAll ds ∧ PyData.showableAll ds = true ∧ PyData.canLayAll0 ds = true ∧ PyData.hasDictAll ds = false
  | [], _ => by simp [PyData.shownAll, PyData.showableAll, PyData.canLayAll0, PyData.hasDictAll, piled, costAll]
  | d :: ds, h => by
    rw [plainAll] at h
    obtain ⟨a1, a2, a3, a4⟩ := shown_le d h.1
    obtain ⟨k1, k2, k3, k4⟩ := shownAll_le ds h.2
    refine ⟨?_, by rw [PyData.showableAll, a2, k2]; rfl, by rw [PyData.canLayAll0, a3, k3]; rfl, by rw [PyData.hasDictAll, a4, k4]; rfl⟩
    rw [PyData.shownAll, costAll]
    have e2 : piled (d.shown :: PyData.shownAll ds) = d.shown.length + 2 + piled (PyData.shownAll ds) := piled_cons _ _
    rw [e2]
    omega
end
theorem shn_list {ds : List Dt} (h : plainAll ds) (hc : costAll ds + 3 ≤ LIM) (hd : (PyData.list ds).depth ≤ 64) : Shn (.list ds) := by
  obtain ⟨k1, k2, k3, k4⟩ := shown_le (.list ds) (by rw [plain]; exact h)
  rw [cost] at k1
  have sh : SeqAt.shaped (.list ds) = true := by unfold SeqAt.shaped; rw [k3]; simpa using hd
  refine ⟨sh, k4, ?_⟩
  show (if _ then _ else _) = _
  rw [if_pos]
  rw [k2, sh]
  simp
  omega
theorem shn_tup {ds : List Dt} (h : plainAll ds) (hc : costAll ds + 3 ≤ LIM) (hd : (PyData.tuple ds).depth ≤ 64) : Shn (.tuple ds) := by
  obtain ⟨k1, k2, k3, k4⟩ := shown_le (.tuple ds) (by rw [plain]; exact h)
  rw [cost] at k1
  have sh : SeqAt.shaped (.tuple ds) = true := by unfold SeqAt.shaped; rw [k3]; simpa using hd
  refine ⟨sh, k4, ?_⟩
  show (if _ then _ else _) = _
  rw [if_pos]
  rw [k2, sh]
  simp
  omega
end W
end
section
set_option maxRecDepth 100000
set_option maxHeartbeats 200000
namespace W
open PySem L2 DL TL T64
/-! ### bent texts -/
def asc (x : Str) : Prop := ∀ c ∈ tl x, c < 127
theorem asc_app {x y : Str} (h : asc x) (k : asc y) : asc (x ++ y) := fun c hc => by
  rw [tl_append] at hc
  rcases List.mem_append.mp hc with q | q
  · exact h c q
  · exact k c q
theorem asc_cut {x : Str} (h : asc x) (lo hi : Option Int) : asc (cutS x lo hi) := fun c hc => h c (by
  have : c ∈ ((tl x).drop (HT.sIx x.length 0 lo)).take (HT.sIx x.length x.length hi - HT.sIx x.length 0 lo) := hc
  exact List.mem_of_mem_drop (List.mem_of_mem_take this))
/-- lines whose signs are plain; N a bound of all their signs and their number -/
structure Ls (N : Nat) (L : List Str) : Prop where
  asc : ∀ x ∈ L, asc x
  len : (L.map (·.length)).sum + L.length ≤ N
theorem Ls.app {M N : Nat} {L K : List Str} (h : Ls M L) (k : Ls N K) : Ls (M + N) (L ++ K) :=
  ⟨fun x hx => (List.mem_append.mp hx).elim (h.asc x) (k.asc x), by have := h.len; have := k.len; simp; omega⟩
theorem sum_sub {L K : List Str} (h : K.Sublist L) : (K.map (·.length)).sum + K.length ≤ (L.map (·.length)).sum + L.length := by
  induction h with
  | slnil => simp
  | cons a _ ih => simp; omega
  | cons_cons a _ ih => simp; omega
theorem Ls.sub {N : Nat} {L K : List Str} (h : Ls N L) (s : K.Sublist L) : Ls N K := ⟨fun x hx => h.asc x (s.subset hx), Nat.le_trans (sum_sub s) h.len⟩
theorem Ls.cut {N : Nat} {L : List Str} (h : Ls N L) (lo hi : Option Int) : Ls N (cutL L lo hi) := h.sub ((List.take_sublist _ _).trans (List.drop_sublist _ _))
theorem cut_map {α β : Type} (f : α → β) (l : List α) (lo hi : Option Int) : cutL (l.map f) lo hi = (cutL l lo hi).map f := by
  unfold cutL
  rw [List.length_map, ← List.map_drop, ← List.map_take]
def dS (L : List Str) : List Dt := L.map fun x => .str x
theorem dS_cut (L : List Str) (lo hi : Option Int) : cutL (dS L) lo hi = dS (cutL L lo hi) := cut_map _ _ _ _
theorem dS_app (L K : List Str) : dS L ++ dS K = dS (L ++ K) := by simp [dS]
theorem split_ls {x : Str} (h : asc x) : Ls (x.length + 1) (PySem.Txt.split x ⟨#[10]⟩) := by
  obtain ⟨ls, last, h1, h2, h3, h4⟩ := lines_of 10 (tl x).length (tl x) (Nat.le_refl _)
  have es : PySem.Txt.split x ⟨#[10]⟩ = (ls ++ [last]).map mk := by
    refine map_tl_inj ?_
    rw [split_cutc x 10 (by decide), h1, mk_map]
  rw [es]
  constructor
  · intro y hy c hc
    obtain ⟨l, hl, rfl⟩ := List.mem_map.mp hy
    rw [tl_mk'] at hc
    refine h c ?_
    rw [h2]
    rcases List.mem_append.mp hl with q | q
    · exact List.mem_append_left _ (List.mem_flatten.mpr ⟨l ++ [10], List.mem_map.mpr ⟨l, q, rfl⟩, by simp [hc]⟩)
    · simp at q; subst q; exact List.mem_append_right _ hc
  · rw [len_tl, h2]
    have e : ∀ ls : List (List Nat), ((ls.map mk).map (·.length)).sum + ls.length = ((ls.map (· ++ [10])).flatten).length := fun ls => by
      induction ls with
      | nil => rfl
      | cons l ls ih => simp only [List.map_cons, List.sum_cons, List.length_cons, List.flatten_cons, List.length_append, List.length_nil, mk_len]; omega
    have := e ls
    simp only [List.map_append, List.sum_append, List.length_append, List.map_cons, List.map_nil, List.sum_cons, List.sum_nil, List.length_map, List.length_cons, List.length_nil, mk_len] at this ⊢
    omega
/-- a drawn way of bending the lines keeps them plain -/
def bendR (N : Nat) (t : Str) (s3 s4 : SV) (bag : List Dt) : Out → En → Prop := fun o ρ => o = .nx ∧ ∃ L, ρ = [.lst true bag, .imm (.str t), .imm (.list (dS L)), s3, s4, .no] ∧ Ls N L
theorem ls_one {x : Str} (h : asc x) : Ls (x.length + 1) [x] := ⟨by simpa using h, by simp⟩
theorem Ls.up {M N : Nat} {L : List Str} (h : Ls M L) (k : M ≤ N) : Ls N L := ⟨h.asc, Nat.le_trans h.len k⟩
theorem Ls.count {N : Nat} {L : List Str} (h : Ls N L) : L.length ≤ N := by have := h.len; omega
theorem Ls.item {N : Nat} {L : List Str} (h : Ls N L) {x : Str} (hx : x ∈ L) : x.length ≤ N := by
  have h2 := h.len
  have : ∀ L : List Str, x ∈ L → x.length ≤ (L.map (·.length)).sum := fun L hx => by
    induction L with
    | nil => simp at hx
    | cons a L ih =>
      simp only [List.map_cons, List.sum_cons]
      rcases List.mem_cons.mp hx with rfl | hx
      · omega
      · have := ih hx; omega
  have := this L hx
  omega
end W
end
section
set_option maxRecDepth 100000
set_option maxHeartbeats 200000
namespace W
open PySem L2 DL TL T64
theorem joinL_len (c : Nat) : ∀ ls : List (List Nat), (joinL [c] ls).length ≤ (ls.map List.length).sum + ls.length
  | [] => by simp [joinL]
  | [p] => by simp [joinL]
  | p :: q :: r => by
    have := joinL_len c (q :: r)
    show (p ++ ([c] ++ joinL [c] (q :: r))).length ≤ _
    simp only [List.length_append, List.map_cons, List.sum_cons, List.length_cons, List.length_nil] at this ⊢
    omega
theorem joinL_mem (c : Nat) : ∀ ls : List (List Nat), ∀ d ∈ joinL [c] ls, d = c ∨ ∃ l ∈ ls, d ∈ l
  | [], d, h => by simp [joinL] at h
  | [p], d, h => .inr ⟨p, by simp, by simpa [joinL] using h⟩
  | p :: q :: r, d, h => by
    have h : d ∈ p ++ ([c] ++ joinL [c] (q :: r)) := h
    rcases List.mem_append.mp h with k | k
    · exact .inr ⟨p, by simp, k⟩
    · rcases List.mem_append.mp k with k | k
      · exact .inl (by simpa using k)
      · rcases joinL_mem c (q :: r) d k with k | ⟨l, hl, k⟩
        · exact .inl k
        · exact .inr ⟨l, by simp at hl ⊢; exact .inr hl, k⟩
theorem join_ls {N : Nat} {L : List Str} (h : Ls N L) : asc (PySem.Txt.join ⟨#[10]⟩ L) ∧ (PySem.Txt.join ⟨#[10]⟩ L).length ≤ N := by
  have e : tl (PySem.Txt.join ⟨#[10]⟩ L) = joinL [10] (L.map tl) := by rw [join_eq, tl_join]
  constructor
  · intro c hc
    rw [e] at hc
    rcases joinL_mem 10 _ c hc with rfl | ⟨l, hl, k⟩
    · omega
    · obtain ⟨x, hx, rfl⟩ := List.mem_map.mp hl
      exact h.asc x hx c k
  · have h1 := joinL_len 10 (L.map tl)
    have h2 := h.len
    have e2 : ((L.map tl).map List.length).sum = (L.map (·.length)).sum := by
      rw [List.map_map]
      exact congrArg List.sum (List.map_congr_left fun x _ => (len_tl x).symm)
    rw [len_tl, e]
    simp only [List.length_map] at h1
    omega
theorem cut_split {α : Type} (L : List α) (k : Nat) : ∃ a, cutL L none (some (k : Int)) = L.take a ∧ cutL L (some (k : Int)) none = L.drop a := by
  refine ⟨min k L.length, ?_, ?_⟩
  · unfold cutL
    rw [HT.sIx_nat]
    show (L.drop 0).take (min k L.length - 0) = _
    simp
  · unfold cutL
    rw [HT.sIx_nat]
    show (L.drop (min k L.length)).take (L.length - min k L.length) = _
    exact List.take_of_length_le (by rw [List.length_drop]; omega)
theorem ls_mid {M N : Nat} {A B C : List Str} (h : Ls M (A ++ C)) (k : Ls N B) : Ls (M + N) (A ++ B ++ C) := by
  constructor
  · intro x hx
    simp only [List.mem_append] at hx
    rcases hx with (q | q) | q
    · exact h.asc x (by simp [q])
    · exact k.asc x q
    · exact h.asc x (by simp [q])
  · have h1 := h.len
    have h2 := k.len
    simp only [List.map_append, List.sum_append, List.length_append] at h1 ⊢
    omega
theorem cut_out {N : Nat} {L : List Str} (h : Ls N L) (k : Nat) : Ls N (cutL L none (some (k : Int)) ++ cutL L (some ((k : Int) + 1)) none) := by
  have e1 : cutL L none (some (k : Int)) = L.take (min k L.length) := by
    unfold cutL
    rw [HT.sIx_nat]
    show (L.drop 0).take (min k L.length - 0) = _
    simp
  have e2 : cutL L (some ((k : Int) + 1)) none = L.drop (min (k + 1) L.length) := by
    have e : ((k : Int) + 1) = ((k + 1 : Nat) : Int) := by omega
    rw [e]
    unfold cutL
    rw [HT.sIx_nat]
    show (L.drop (min (k + 1) L.length)).take (L.length - min (k + 1) L.length) = _
    exact List.take_of_length_le (by rw [List.length_drop]; omega)
  rw [e1, e2]
  refine h.sub ?_
  have e3 : L.drop (min (k + 1) L.length) = (L.drop (min k L.length)).drop (min (k + 1) L.length - min k L.length) := by
    rw [List.drop_drop]; congr 1; omega
  have s : (L.take (min k L.length) ++ L.drop (min (k + 1) L.length)).Sublist (L.take (min k L.length) ++ L.drop (min k L.length)) := by
    rw [e3]
    exact (List.Sublist.refl _).append (List.drop_sublist _ _)
  rwa [List.take_append_drop] at s
theorem bent_ok {bag : List Dt} {t : Str} (h : Bag bag) (ha : asc t) (hl : t.length ≤ 3000) : WpF m__law_bent_text [.lst true bag, .imm (.str t)] fun r out => ∃ s bag', r = .val (.str s) ∧ asc s ∧ s.length ≤ 2 * t.length + 20 ∧ out = [.lst true bag', .imm (.str t)] ∧ Bag bag' := by
  unfold m__law_bent_text
  refine wpF_of fun K kr kn => ?_
  unfold b__law_bent_text
  have hs : dSplit t (.str ⟨#[10]⟩) = some (PySem.Txt.split t ⟨#[10]⟩) := if_pos ⟨rfl, by unfold LIM; omega⟩
  have hL := split_ls ha
  generalize hLe : PySem.Txt.split t ⟨#[10]⟩ = L at hs hL
  have hn : L.length ≤ t.length + 1 := hL.count
  have hne : 0 < L.length := by
    obtain ⟨ls, last, h1, _⟩ := lines_of 10 (tl t).length (tl t) (Nat.le_refl _)
    have := split_cutc t 10 (by decide)
    rw [hLe, h1] at this
    have := congrArg List.length this
    simp at this
    omega
  rw [nl_eq]
  repeat (walk_at "dl one")
  refine optk_ok hs ?_
  repeat (walk_at "dl one")
  refine (take_ok h (n := 9) (by omega) (by omega)).mono fun rr out ⟨w, bag1, k1, w0, w1, k2, h1⟩ => ?_
  subst k1 k2
  repeat (walk_at "dl one")
  refine (take_ok h1 (n := (((L.map fun y => PyData.str y).length : Nat) : Int)) (by simp; omega) (by simp; omega)).mono fun rr out ⟨at_, bag2, k1, a0, a1, k2, h2⟩ => ?_
  subst k1 k2
  repeat (walk_at "dl one")
  refine if_ok (fun e1 => ?_) (fun e1 => ?_)
  · repeat (walk_at "dl one")
    refine c1_any rfl (dLen_str (x := t) (by unfold LIM; omega)) ?_
    repeat (walk_at "dl one")
    refine (take_ok h2 (n := (t.length : Int) + 1) (by omega) (by omega)).mono fun rr out ⟨c, bag3, k1, c0, c1, k2, h3⟩ => ?_
    subst k1 k2
    repeat (walk_at "dl one")
    refine optk_ok (show dSl (some (.str t)) none (some c) = some (.str (cutS t none (some c))) from if_pos (by unfold LIM; omega)) ?_
    repeat (walk_at "dl one")
    show WpF m__law_some [.lst true bag3, .imm (.list (dS ["", "", "\n", "x"]))] _
    refine (some_ok h3 (by simp [dS]) (by simp [dS])).mono fun rr out ⟨d, bag4, k1, hd, k2, h4⟩ => ?_
    subst k1 k2
    obtain ⟨y, hy, rfl⟩ := List.mem_map.mp hd
    have hy2 : asc y ∧ y.length ≤ 10 := by
      have hh : (["", "", "\n", "x"] : List Str).all (fun y => (tl y).all (fun c => decide (c < 127)) && decide (y.length ≤ 10)) = true := by decide +kernel
      have := List.all_eq_true.mp hh y hy
      rw [Bool.and_eq_true] at this
      exact ⟨fun c hc => by simpa using List.all_eq_true.mp this.1 c hc, by simpa using this.2⟩
    have hcl := cutS_length t none (some c)
    repeat (walk_at "dl one")
    refine op_any rfl rfl (dAdd_str ?_) ?_
    · show _ ≤ 1000000; omega
    repeat (walk_at "dl one")
    exact kr _ _ ⟨_, bag4, rfl, asc_app (asc_cut ha _ _) hy2.1, by rw [app_len]; omega, rfl, h4⟩
  · have w3 : 3 ≤ w := by simpa using e1
    have tail : ∀ (L' : List Str) (s5 : SV), Ls (2 * t.length + 9) L' → Wp (mSeq (mRet (mOp dAdd (mB (mS1 dJoin (ret (.str ⟨#[10]⟩)) (mVB 2))) (mB (mRE (mCall m__law_some (mCons (mVB 0) (mCons (mB (mFz (mLst (mCons (mB (ret (.str ""))) (mCons (mB (ret (.str ⟨#[10]⟩))) (mCons (mB (ret (.str "0 66 a\n"))) mNil)))))) mNil))))))) mNext) [.lst true bag2, .imm (.str t), .imm (.list (dS L')), .imm (.int w), .imm (.int at_), s5] K := fun L' s5 hL' => by
      obtain ⟨ja, jl⟩ := join_ls hL'
      have hl' := hL'.len
      repeat (walk_at "dl one")
      refine ⟨_, rfl, optk_ok (show dJoin ⟨#[10]⟩ (.list (dS L')) = some (.str (PySem.Txt.join ⟨#[10]⟩ L')) from ?_) ?_⟩
      · unfold dJoin
        show (match strsD (L'.map fun y => PyData.str y) with | some ys => _ | none => _) = _
        rw [strsD_map]
        dsimp only
        rw [if_pos (by rw [one_len]; unfold LIM; omega)]
      repeat (walk_at "dl one")
      show WpF m__law_some [.lst true bag2, .imm (.list (dS ["", ⟨#[10]⟩, "0 66 a\n"]))] _
      refine (some_ok h2 (by simp [dS]) (by simp [dS])).mono fun rr out ⟨d, bag4, k1, hd, k2, h4⟩ => ?_
      subst k1 k2
      obtain ⟨y, hy, rfl⟩ := List.mem_map.mp hd
      have hy2 : asc y ∧ y.length ≤ 10 := by
        have hh : (["", ⟨#[10]⟩, "0 66 a\n"] : List Str).all (fun y => (tl y).all (fun c => decide (c < 127)) && decide (y.length ≤ 10)) = true := by decide +kernel
        have := List.all_eq_true.mp hh y hy
        rw [Bool.and_eq_true] at this
        exact ⟨fun c hc => by simpa using List.all_eq_true.mp this.1 c hc, by simpa using this.2⟩
      repeat (walk_at "dl one")
      refine op_any rfl rfl (dAdd_str ?_) ?_
      · show _ ≤ 1000000; omega
      repeat (walk_at "dl one")
      exact kr _ _ ⟨_, bag4, rfl, asc_app ja hy2.1, by rw [app_len]; omega, rfl, h4⟩
    have cl : ∀ lo hi, (cutL (L.map fun y => PyData.str y) lo hi).length ≤ 3001 := fun lo hi => by have := cut_len (L.map fun y => PyData.str y) lo hi; rw [List.length_map] at this; omega
    have hw : w = 3 ∨ w = 4 ∨ w = 5 ∨ w = 6 ∨ w = 7 ∨ w = 8 := by omega
    rcases hw with rfl | rfl | rfl | rfl | rfl | rfl
    · repeat (walk_at "dl one")
      refine if_ok (fun _ => ?_) (fun e => by simp [PyData.eqv] at e)
      repeat (walk_at "dl one")
      refine opN_any rfl rfl (catL_ok ?_) ?_
      · have := cl none (some at_); have := cl (some (at_ + 1)) none; unfold LIM; omega
      repeat (walk_at "dl one")
      refine if_ok (fun e => by simp [PyData.eqv] at e) (fun _ => ?_)
      repeat (walk_at "dl one")
      refine if_ok (fun e => by simp [PyData.eqv] at e) (fun _ => ?_)
      repeat (walk_at "dl one")
      refine if_ok (fun e => by simp [PyData.eqv] at e) (fun _ => ?_)
      repeat (walk_at "dl one")
      refine if_ok (fun e => by simp [PyData.eqv] at e) (fun _ => ?_)
      refine ws_mNext (ws_nx ?_)
      have := tail (cutL L none (some at_) ++ cutL L (some (at_ + 1)) none) .no (((hL.cut _ _).app (hL.cut _ _)).up (by omega))
      rw [← dS_app, ← dS_cut, ← dS_cut] at this
      exact this
    · repeat (walk_at "dl one")
      refine if_ok (fun e => by simp [PyData.eqv] at e) (fun _ => ?_)
      repeat (walk_at "dl one")
      refine if_ok (fun _ => ?_) (fun e => by simp [PyData.eqv] at e)
      repeat (walk_at "dl one")
      refine opN_any rfl rfl (catL_ok ?_) ?_
      · have := cl none (some at_); have := cl (some at_) (some (at_ + 1)); unfold LIM; omega
      repeat (walk_at "dl one")
      refine opN_any rfl rfl (catL_ok ?_) ?_
      · have := cl none (some at_); have := cl (some at_) (some (at_ + 1)); have := cl (some at_) none; rw [List.length_append]; unfold LIM; omega
      repeat (walk_at "dl one")
      refine if_ok (fun e => by simp [PyData.eqv] at e) (fun _ => ?_)
      repeat (walk_at "dl one")
      refine if_ok (fun e => by simp [PyData.eqv] at e) (fun _ => ?_)
      repeat (walk_at "dl one")
      refine if_ok (fun e => by simp [PyData.eqv] at e) (fun _ => ?_)
      refine ws_mNext (ws_nx ?_)
      have hat : ∃ k : Nat, at_ = (k : Int) := ⟨at_.toNat, by omega⟩
      obtain ⟨k, rfl⟩ := hat
      obtain ⟨a, q1, q2⟩ := cut_split L k
      have := tail (cutL L none (some (k : Int)) ++ cutL L (some (k : Int)) (some ((k : Int) + 1)) ++ cutL L (some (k : Int)) none) .no ((ls_mid (by rw [q1, q2, List.take_append_drop]; exact hL) (hL.cut _ _)).up (by omega))
      rw [← dS_app, ← dS_app, ← dS_cut, ← dS_cut, ← dS_cut] at this
      exact this
    · repeat (walk_at "dl one")
      refine if_ok (fun e => by simp [PyData.eqv] at e) (fun _ => ?_)
      repeat (walk_at "dl one")
      refine if_ok (fun e => by simp [PyData.eqv] at e) (fun _ => ?_)
      repeat (walk_at "dl one")
      refine if_ok (fun _ => ?_) (fun e => by simp [PyData.eqv] at e)
      repeat (walk_at "dl one")
      obtain ⟨k, rfl⟩ : ∃ k : Nat, at_ = (k : Int) := ⟨at_.toNat, by omega⟩
      have hk : k < L.length := by simpa using a1
      have hi : (L.map fun y => PyData.str y)[k]? = some (.str L[k]) := by simp [hk]
      have il := hL.item (List.getElem_mem hk)
      have ia := hL.asc _ (List.getElem_mem hk)
      have sl : (Str.ofString " ").length = 1 := by decide +kernel
      have sa : asc (Str.ofString " ") := by
        have hh : (tl (Str.ofString " ")).all (fun c => decide (c < 127)) = true := by decide +kernel
        exact fun c hc => by simpa using List.all_eq_true.mp hh c hc
      refine op_any rfl rfl (dIx_LN hi) ?_
      repeat (walk_at "dl one")
      refine op_any rfl rfl (dAdd_str ?_) ?_
      · unfold LIM; omega
      repeat (walk_at "dl one")
      refine opN_any rfl rfl (catL_ok ?_) ?_
      · have := cl none (some (k : Int)); simp only [List.length_cons, List.length_nil]; unfold LIM; omega
      repeat (walk_at "dl one")
      refine opN_any rfl rfl (catL_ok ?_) ?_
      · have := cl none (some (k : Int)); have := cl (some ((k : Int) + 1)) none; rw [List.length_append]; simp only [List.length_cons, List.length_nil]; unfold LIM; omega
      repeat (walk_at "dl one")
      refine if_ok (fun e => by simp [PyData.eqv] at e) (fun _ => ?_)
      repeat (walk_at "dl one")
      refine if_ok (fun e => by simp [PyData.eqv] at e) (fun _ => ?_)
      refine ws_mNext (ws_nx ?_)
      have lm : Ls (t.length + 4) [L[k] ++ Str.ofString " "] := ⟨by simpa using asc_app ia sa, by simp [app_len]; omega⟩
      have := tail (cutL L none (some (k : Int)) ++ [L[k] ++ Str.ofString " "] ++ cutL L (some ((k : Int) + 1)) none) .no ((ls_mid (cut_out hL k) lm).up (by omega))
      rw [← dS_app, ← dS_app, ← dS_cut, ← dS_cut] at this
      exact this
    · repeat (walk_at "dl one")
      refine if_ok (fun e => by simp [PyData.eqv] at e) (fun _ => ?_)
      repeat (walk_at "dl one")
      refine if_ok (fun e => by simp [PyData.eqv] at e) (fun _ => ?_)
      repeat (walk_at "dl one")
      refine if_ok (fun e => by simp [PyData.eqv] at e) (fun _ => ?_)
      repeat (walk_at "dl one")
      refine if_ok (fun _ => ?_) (fun e => by simp [PyData.eqv] at e)
      repeat (walk_at "dl one")
      obtain ⟨k, rfl⟩ : ∃ k : Nat, at_ = (k : Int) := ⟨at_.toNat, by omega⟩
      have hk : k < L.length := by simpa using a1
      have hi : (L.map fun y => PyData.str y)[k]? = some (.str L[k]) := by simp [hk]
      have il := hL.item (List.getElem_mem hk)
      have ia := hL.asc _ (List.getElem_mem hk)
      have sl : (Str.ofString "0").length = 1 := by decide +kernel
      have sa : asc (Str.ofString "0") := by
        have hh : (tl (Str.ofString "0")).all (fun c => decide (c < 127)) = true := by decide +kernel
        exact fun c hc => by simpa using List.all_eq_true.mp hh c hc
      refine op_any rfl rfl (dIx_LN hi) ?_
      repeat (walk_at "dl one")
      refine op_any rfl rfl (dAdd_str ?_) ?_
      · unfold LIM; omega
      repeat (walk_at "dl one")
      refine opN_any rfl rfl (catL_ok ?_) ?_
      · have := cl none (some (k : Int)); simp only [List.length_cons, List.length_nil]; unfold LIM; omega
      repeat (walk_at "dl one")
      refine opN_any rfl rfl (catL_ok ?_) ?_
      · have := cl none (some (k : Int)); have := cl (some ((k : Int) + 1)) none; rw [List.length_append]; simp only [List.length_cons, List.length_nil]; unfold LIM; omega
      repeat (walk_at "dl one")
      refine if_ok (fun e => by simp [PyData.eqv] at e) (fun _ => ?_)
      refine ws_mNext (ws_nx ?_)
      have lm : Ls (t.length + 4) [Str.ofString "0" ++ L[k]] := ⟨by simpa using asc_app sa ia, by simp [app_len]; omega⟩
      have := tail (cutL L none (some (k : Int)) ++ [Str.ofString "0" ++ L[k]] ++ cutL L (some ((k : Int) + 1)) none) .no ((ls_mid (cut_out hL k) lm).up (by omega))
      rw [← dS_app, ← dS_app, ← dS_cut, ← dS_cut] at this
      exact this
    · repeat (walk_at "dl one")
      refine if_ok (fun e => by simp [PyData.eqv] at e) (fun _ => ?_)
      repeat (walk_at "dl one")
      refine if_ok (fun e => by simp [PyData.eqv] at e) (fun _ => ?_)
      repeat (walk_at "dl one")
      refine if_ok (fun e => by simp [PyData.eqv] at e) (fun _ => ?_)
      repeat (walk_at "dl one")
      refine if_ok (fun e => by simp [PyData.eqv] at e) (fun _ => ?_)
      repeat (walk_at "dl one")
      refine if_ok (fun _ => ?_) (fun e => by simp [PyData.eqv] at e)
      repeat (walk_at "dl one")
      refine if_ok (fun e => ?_) (fun e => ?_)
      · have tne : (tl t).isEmpty = false := by rw [eqv_str, emp_beq] at e; simpa using e
        have tpos : 0 < t.length := by
          rw [len_tl]
          cases q : tl t with
          | nil => rw [q] at tne; cases tne
          | cons _ _ => simp
        repeat (walk_at "dl one")
        refine c1_any rfl (dLen_str (x := t) (by unfold LIM; omega)) ?_
        repeat (walk_at "dl one")
        refine (take_ok h2 (n := (t.length : Int)) (by omega) (by omega)).mono fun rr out ⟨c, bag3, k1, c0, c1, k2, h3⟩ => ?_
        subst k1 k2
        repeat (walk_at "dl one")
        refine optk_ok (show dSl (some (.str t)) none (some c) = some (.str (cutS t none (some c))) from if_pos (by unfold LIM; omega)) ?_
        repeat (walk_at "dl one")
        show WpF m__law_some [.lst true bag3, .imm (.list (dS ["0", "1", " ", "a", ⟨#[10]⟩]))] _
        refine (some_ok h3 (by simp [dS]) (by simp [dS])).mono fun rr out ⟨d, bag4, k1, hd, k2, h4⟩ => ?_
        subst k1 k2
        obtain ⟨y, hy, rfl⟩ := List.mem_map.mp hd
        have hy2 : asc y ∧ y.length ≤ 10 := by
          have hh : (["0", "1", " ", "a", ⟨#[10]⟩] : List Str).all (fun y => (tl y).all (fun c => decide (c < 127)) && decide (y.length ≤ 10)) = true := by decide +kernel
          have := List.all_eq_true.mp hh y hy
          rw [Bool.and_eq_true] at this
          exact ⟨fun c hc => by simpa using List.all_eq_true.mp this.1 c hc, by simpa using this.2⟩
        have hcl := cutS_length t none (some c)
        have hcl2 := cutS_length t (some (c + 1)) none
        repeat (walk_at "dl one")
        refine op_any rfl rfl (dAdd_str ?_) ?_
        · show _ ≤ 1000000; omega
        repeat (walk_at "dl one")
        refine optk_ok (show dSl (some (.str t)) (some (c + 1)) none = some (.str (cutS t (some (c + 1)) none)) from if_pos (by unfold LIM; omega)) ?_
        refine op_any rfl rfl (dAdd_str ?_) ?_
        · rw [app_len]; show _ ≤ 1000000; omega
        repeat (walk_at "dl one")
        exact kr _ _ ⟨_, bag4, rfl, asc_app (asc_app (asc_cut ha _ _) hy2.1) (asc_cut ha _ _), by rw [app_len, app_len]; omega, rfl, h4⟩
      · refine ws_mNext (ws_nx ?_)
        exact tail L .no (hL.up (by omega))
    · repeat (walk_at "dl one")
      refine if_ok (fun e => by simp [PyData.eqv] at e) (fun _ => ?_)
      repeat (walk_at "dl one")
      refine if_ok (fun e => by simp [PyData.eqv] at e) (fun _ => ?_)
      repeat (walk_at "dl one")
      refine if_ok (fun e => by simp [PyData.eqv] at e) (fun _ => ?_)
      repeat (walk_at "dl one")
      refine if_ok (fun e => by simp [PyData.eqv] at e) (fun _ => ?_)
      repeat (walk_at "dl one")
      refine if_ok (fun e => by simp [PyData.eqv] at e) (fun _ => ?_)
      refine ws_mNext (ws_nx ?_)
      exact tail L .no (hL.up (by omega))
end W
end
section
set_option maxRecDepth 100000
set_option maxHeartbeats 200000
namespace W
open PySem L2 DL TL T64
/-! ### the law's turns -/
theorem opens_jlen : ∀ {ls : List (List Nat)} {i a : Int} {rs : List (List Nat)}, Opens i a ls rs → (jour i a rs).length ≤ ((ls.map (· ++ [10])).flatten).length
  | _, _, _, _, .nil => by simp [jour]
  | _, _, _, _, .stop _ => by simp [jour]
  | _, _, _, _, .go h t => by
    have := opens_jlen t
    simp only [jour, List.map_cons, List.flatten_cons, List.length_append, List.length_cons, List.length_nil] at this ⊢
    rw [h.1]
    omega
theorem line_le {i a : Int} {r : List Nat} (h0 : 0 ≤ i) (h1 : i < 2 ^ 64) (h2 : 0 ≤ a) (h3 : a < 1000000007) : (lineL i a r).length ≤ r.length + 42 := by
  have k1 := num_len h0 h1
  have k2 := sumB_range r a h2 h3
  have k3 := num_len k2.1 (by omega)
  rw [len_tl, tl_numS] at k1 k3
  unfold lineL
  simp only [List.length_append, List.length_cons]
  omega
theorem jour_le : ∀ (rs : List (List Nat)) (i a : Int), 0 ≤ i → i + rs.length < 2 ^ 64 → 0 ≤ a → a < 1000000007 → (∀ r ∈ rs, r.length ≤ 30) → (jour i a rs).length ≤ 73 * rs.length
  | [], _, _, _, _, _, _, _ => by simp [jour]
  | r :: rs, i, a, h0, h1, h2, h3, h => by
    have k := line_le (r := r) h0 (by omega) h2 h3
    have k2 := sumB_range r a h2 h3
    have ih := jour_le rs (i + 1) (sumB a r) (by omega) (by simp only [List.length_cons] at h1; omega) k2.1 k2.2 fun x hx => h x (by simp [hx])
    have := h r (by simp)
    simp only [jour, List.length_append, List.length_cons]
    omega
theorem jour_asc : ∀ (rs : List (List Nat)) (i a : Int), 0 ≤ i → 0 ≤ a → a < 1000000007 → (∀ r ∈ rs, ∀ c ∈ r, c < 127) → ∀ c ∈ jour i a rs, c < 127
  | [], _, _, _, _, _, _, c, hc => by simp [jour] at hc
  | r :: rs, i, a, h0, h2, h3, h, c, hc => by
    have k2 := sumB_range r a h2 h3
    simp only [jour, lineL, List.mem_append, List.mem_cons] at hc
    rcases hc with (q | q | q | q | q) | q | q
    · exact num_asc h0 c q
    · omega
    · exact num_asc k2.1 c q
    · omega
    · exact h r (by simp) c q
    · omega
    · exact jour_asc rs (i + 1) (sumB a r) (by omega) k2.1 k2.2 (fun x hx => h x (by simp [hx])) c q
theorem lines_g {x : Str} (hx : G x) {ls : List (List Nat)} {last : List Nat} (hj : tl x = (ls.map (· ++ [10])).flatten ++ last) : ∀ l ∈ ls, G (mk l) := fun l hl => by
  have hs : ∀ c ∈ l, c ∈ tl x := fun c hc => by
    rw [hj]
    exact List.mem_append_left _ (List.mem_flatten.mpr ⟨l ++ [10], List.mem_map.mpr ⟨l, hl, rfl⟩, by simp [hc]⟩)
  have hle : l.length ≤ (tl x).length := by
    rw [hj, List.length_append]
    have : ∀ L : List (List Nat), l ∈ L → l.length ≤ ((L.map (· ++ [10])).flatten).length := fun L => by
      induction L with
      | nil => intro h; simp at h
      | cons p L ih =>
        intro h
        simp only [List.map_cons, List.flatten_cons, List.length_append, List.length_cons, List.length_nil]
        rcases List.mem_cons.mp h with rfl | h
        · omega
        · have := ih h; omega
    have := this ls hl
    omega
  exact ⟨fun c hc => hx.asc c (hs c hc), by have := hx.len; rw [len_tl] at this; rw [len_tl, tl_mk']; omega⟩
theorem lines_n {x : Str} (hx : G x) {ls : List (List Nat)} {last : List Nat} (hj : tl x = (ls.map (· ++ [10])).flatten ++ last) : ls.length ≤ 100000 := by
  have : ∀ L : List (List Nat), L.length ≤ ((L.map (· ++ [10])).flatten).length := fun L => by
    induction L with
    | nil => simp
    | cons p L ih => simp only [List.map_cons, List.flatten_cons, List.length_append, List.length_cons, List.length_nil]; omega
  have h := this ls
  have := hx.len
  rw [len_tl, hj, List.length_append] at this
  omega
theorem plain_strs {l : List Str} (h : ∀ x ∈ l, asc x) : plainAll (l.map fun y => PyData.str y) := by
  induction l with
  | nil => trivial
  | cons x l ih => exact ⟨h x (by simp), ih fun y hy => h y (by simp [hy])⟩
theorem cost_strs (l : List Str) (N : Nat) (h : ∀ x ∈ l, x.length ≤ N) : costAll (l.map fun y => PyData.str y) ≤ l.length * (10 * N + 4) := by
  induction l with
  | nil => simp [costAll]
  | cons x l ih =>
    have := ih fun y hy => h y (by simp [hy])
    have h1 := h x (by simp)
    rw [List.length_cons, Nat.succ_mul]
    simp only [List.map_cons, costAll, cost]
    omega
end W
end
section
set_option maxRecDepth 100000
set_option maxHeartbeats 400000
namespace W
open PySem L2 DL TL T64
theorem jtxt_append {rs : List Str} {r : Str} : jour 0 0 (rs.map tl ++ [tl r]) = jour 0 0 ((rs ++ [r]).map tl) := by simp
theorem shn_pair {a : List Dt} {b : Str} (h : plainAll a) (hb : asc b) (hc : costAll a ≤ 400000) (hl : b.length ≤ 20000) (hd : (PyData.list [.tuple a, .str b]).depth ≤ 64) : Shn (.list [.tuple a, .str b]) := by
  refine shn_list ⟨h, hb, trivial⟩ ?_ hd
  simp only [costAll, cost]
  unfold LIM
  omega
theorem depth_strs (l : List Str) : PyData.depthAll (l.map fun y => PyData.str y) ≤ 1 := by
  induction l with
  | nil => simp [PyData.depthAll]
  | cons x l ih => simp only [List.map_cons, PyData.depthAll, PyData.depth]; omega
theorem cost_jour : ∀ (rs : List (List Nat)) (i a : Int), costAll ((rs.map mk).map fun y => PyData.str y) ≤ 10 * (jour i a rs).length
  | [], _, _ => by simp [costAll]
  | r :: rs, i, a => by
    have h1 := line_len i a r
    have h2 := cost_jour rs (i + 1) (sumB a r)
    simp only [List.map_cons, costAll, cost, jour, List.length_append, List.length_cons]
    rw [mk_len]
    omega
noncomputable def tailB : MS := (mSeq (mAsg (mRE (mCall m__law_opened (mCons (mVB 10) mNil))) (mgN 11))
 (mSeq (mIfS (mNot (mTst (mRE (mCall m__law_alike (mCons (mB (mFz (mLst (mCons (mB (mRE (mCall m_opened (mCons (mVB 10) mNil)))) (mCons (mB (mRE (mCall m_with_record (mCons (mVB 10) (mCons (mVB 8) mNil))))) mNil))))) (mCons (mB (mFz (mLst (mCons (mVB 11) (mCons (mB (mRE (mCall m__law_journal (mCons (mB (mFz (mOpN catL (mB (mFz (mC1N dList (mVB 11)))) (mB (mFz (mLst (mCons (mVB 8) mNil))))))) mNil)))) mNil))))) mNil))))))
 (mSeq (mRet (ret (.bool false)))
 mNext)
 mNext)
 mNext))
theorem tail_bent {x r : Str} {b : List Dt} (gx : G x) (hb : Bag b) (hr : Rec r) {s2 s3 s4 s5 s6 s7 s9 s11 s12 s13 s14 s15 : SV} (p11 : isPin s11 = false) {Q : Out → En → Prop}
    (q : ∀ b' s11', Bag b' → isPin s11' = false → Q .nx [.no, .lst false b', s2, s3, s4, s5, s6, s7, .imm (.str r), s9, .imm (.str x), s11', s12, s13, s14, s15]) :
    Wp tailB [.no, .lst false b, s2, s3, s4, s5, s6, s7, .imm (.str r), s9, .imm (.str x), s11, s12, s13, s14, s15] Q := by
  unfold tailB
  obtain ⟨ls, last, hc, hj, hl, _⟩ := lines_of 10 (tl x).length (tl x) (Nat.le_refl _)
  repeat (walk_at "dl two")
  refine (lopened_ok gx hc hj hl).mono fun rr out ⟨rs, k1, op, k2⟩ => ?_
  subst k1 k2
  repeat (walk_at "dl two")
  refine (opened_ok gx hc (lines_g gx hj) (lines_n gx hj)).mono fun rr out ⟨rs', k1, op', k2⟩ => ?_
  have e := Opens.uniq (by omega) (by omega) (by omega) op' op
  subst e k1 k2
  have jl := opens_jlen op
  have jx : (jour 0 0 rs').length ≤ 10000 := by
    have := gx.len
    rw [len_tl, hj, List.length_append] at this
    omega
  have rg := hr.g
  have hlen : (jour 0 0 (rs' ++ [tl r])).length ≤ 11000 := by
    have h1 := sumsB_range rs' 0 (by omega) (by omega)
    have h2 := line_le (i := (0 : Int) + (rs'.length : Int)) (a := sumsB 0 rs') (r := tl r) (by omega) (by have := jour_ge rs' 0 0; omega) h1.1 h1.2
    rw [jour_snoc, List.length_append, List.length_append]
    have := hr.len
    simp only [List.length_cons, List.length_nil]
    omega
  repeat (walk_at "dl two")
  refine (withrec_ok gx rg hr.yes hc (lines_g gx hj) (lines_n gx hj) op (by omega)).mono fun rr out ⟨k1, k2⟩ => ?_
  subst k1 k2
  repeat (walk_at "dl two")
  have jn := jour_ge rs' 0 0
  refine opN_any rfl rfl (catL_ok (x := stL rs') (y := [PyData.str r]) ?_) ?_
  · unfold stL
    simp only [List.length_map, List.length_cons, List.length_nil]
    unfold LIM
    omega
  repeat (walk_at "dl two")
  have es : stL rs' ++ [PyData.str r] = (rs'.map mk ++ [r]).map fun y => PyData.str y := by
    rw [stL_mk]; simp
  have et : (rs'.map mk ++ [r]).map tl = rs' ++ [tl r] := by rw [List.map_append, mk_map]; rfl
  have ej : jtxt (rs'.map mk ++ [r]) = mk (jour 0 0 (rs' ++ [tl r])) := by unfold jtxt; rw [et]
  rw [es]
  refine (ljournal_ok (rs := rs'.map mk ++ [r]) rfl (by rw [et]; omega)).mono fun rr out ⟨k1, k2⟩ => ?_
  subst k1 k2
  rw [ej]
  repeat (walk_at "dl two")
  have asj : asc (mk (jour 0 0 (rs' ++ [tl r]))) := fun c hc => by
    rw [tl_mk'] at hc
    refine jour_asc _ 0 0 (by omega) (by omega) (by omega) (fun y hy d hd => ?_) c hc
    rcases List.mem_append.mp hy with k | k
    · have := op.recs y k
      unfold isRec at this
      rw [Bool.and_eq_true] at this
      have := List.all_eq_true.mp this.2 d hd
      simp at this
      omega
    · simp at k
      subst k
      exact rg.asc d hd
  have asl : ∀ y ∈ rs'.map mk, asc y ∧ y.length ≤ 10000 := fun y hy => by
    obtain ⟨z, hz, rfl⟩ := List.mem_map.mp hy
    have hle := rec_le rs' 0 0 z hz
    refine ⟨fun d hd => ?_, by rw [len_tl, tl_mk']; omega⟩
    have := op.recs z hz
    unfold isRec at this
    rw [Bool.and_eq_true] at this
    have := List.all_eq_true.mp this.2 d hd
    simp at this
    omega
  have hS : Shn (.list [.tuple ((rs'.map mk).map fun y => PyData.str y), .str (mk (jour 0 0 (rs' ++ [tl r])))]) := by
    refine shn_pair (plain_strs fun y hy => (asl y hy).1) asj ?_ (by rw [mk_len]; omega) ?_
    · have := cost_jour rs' 0 0; omega
    · have := depth_strs (rs'.map mk)
      simp only [PyData.depth, PyData.depthAll]
      omega
  rw [stL_mk]
  have e0 : (rs'.map fun r => PyData.str (mk r)) = (rs'.map mk).map fun y => PyData.str y := by rw [List.map_map]; rfl
  rw [e0]
  repeat (walk_at "dl two")
  refine (alike_ok hS).mono fun rr out ⟨k1, k2⟩ => ?_
  subst k1 k2
  repeat (walk_at "dl two")
  exact q b _ hb rfl
end W
end
section
set_option maxRecDepth 100000
set_option maxHeartbeats 400000
namespace W
open PySem L2 DL TL T64
theorem turn_bent {t r : Str} {k : Int} {b : List Dt} (ht : asc t) (hlt : t.length ≤ 1000) (hb : Bag b) (hr : Rec r) {s2 s3 s5 s6 s7 s10 s11 s12 s13 s14 s15 : SV} (p10 : isPin s10 = false) (p11 : isPin s11 = false) {Q : Out → En → Prop}
    (q : ∀ b' s10' s11', Bag b' → isPin s10' = false → isPin s11' = false → Q .nx [.no, .lst false b', s2, s3, .imm (.str t), s5, s6, s7, .imm (.str r), .imm (.int k), s10', s11', s12, s13, s14, s15]) :
    Wp lb_law_p1_4 [.no, .lst false b, s2, s3, .imm (.str t), s5, s6, s7, .imm (.str r), .imm (.int k), s10, s11, s12, s13, s14, s15] Q := by
  have e : lb_law_p1_4 = mSeq (mAsg (mRE (mCall m__law_bent_text (mCons (mVB 1) (mCons (mVB 4) mNil)))) (mgN 10)) (mSeq (mAsg (mIf (mTst (mOp dGt (mVB 9) (mB (ret (.int 3))))) (mRE (mCall m__law_bent_text (mCons (mVB 1) (mCons (mVB 10) mNil)))) (mV 10)) (mgN 10)) tailB) := rfl
  rw [e]
  repeat (walk_at "dl two")
  refine (bent_ok hb ht (by omega)).mono fun rr out ⟨x, b1, k1, ax, lx, k2, h1⟩ => ?_
  subst k1 k2
  repeat (walk_at "dl two")
  refine if_ok (fun _ => ?_) (fun _ => ?_)
  · repeat (walk_at "dl two")
    refine (bent_ok h1 ax (by omega)).mono fun rr out ⟨y, b2, k1, ay, ly, k2, h2⟩ => ?_
    subst k1 k2
    repeat (walk_at "dl two")
    exact tail_bent ⟨ay, by omega⟩ h2 hr p11 fun b' s11' hb' hp => q b' _ s11' hb' rfl hp
  · repeat (walk_at "dl two")
    exact tail_bent ⟨ax, by omega⟩ h1 hr p11 fun b' s11' hb' hp => q b' _ s11' hb' rfl hp
/-- the six turns -/
theorem loop_bent {t r : Str} {ds : List Dt} {b : List Dt} (hds : ∀ d ∈ ds, ∃ k, d = .int k) (ht : asc t) (hlt : t.length ≤ 1000) (hb : Bag b) (hr : Rec r) {s2 s3 s5 s6 s7 s9 s10 s11 s12 s13 s14 s15 : SV} (p9 : isPin s9 = false) (p10 : isPin s10 = false) (p11 : isPin s11 = false) {Q : Out → En → Prop}
    (q : ∀ b' s9' s10' s11', Bag b' → isPin s9' = false → isPin s10' = false → isPin s11' = false → (isOwn s9 = false → isOwn s9' = false) → Q .nx [.no, .lst false b', s2, s3, .imm (.str t), s5, s6, s7, .imm (.str r), s9', s10', s11', s12, s13, s14, s15]) :
    Wp (mForL (mgN 9) lb_law_p1_4 ds) [.no, .lst false b, s2, s3, .imm (.str t), s5, s6, s7, .imm (.str r), s9, s10, s11, s12, s13, s14, s15] Q := by
  refine wp_forL (fun done rest ρ => ∃ b' s9' s10' s11', Bag b' ∧ isPin s9' = false ∧ isPin s10' = false ∧ isPin s11' = false ∧ (isOwn s9 = false → isOwn s9' = false) ∧ ρ = [.no, .lst false b', s2, s3, .imm (.str t), s5, s6, s7, .imm (.str r), s9', s10', s11', s12, s13, s14, s15]) ⟨b, s9, s10, s11, hb, p9, p10, p11, id, rfl⟩ ?_ ?_
  · rintro done d rest ρ he ⟨b', s9', s10', s11', hb', h9, h10, h11, ho, rfl⟩
    obtain ⟨k, rfl⟩ := hds d (by rw [he]; simp)
    refine ⟨_, by unfold mgN; simp only [List.getElem?_cons_succ, List.getElem?_cons_zero, h9]; rfl, ?_⟩
    exact turn_bent ht hlt hb' hr h10 h11 fun b2 t10 t11 k1 k2 k3 => after_nx ⟨b2, _, t10, t11, k1, rfl, k2, k3, fun _ => rfl, rfl⟩
  · rintro ρ ⟨b', s9', s10', s11', hb', h9, h10, h11, ho, rfl⟩
    exact q b' s9' s10' s11' hb' h9 h10 h11 ho
end W
end
section
set_option maxRecDepth 100000
set_option maxHeartbeats 400000
namespace W
open PySem L2 DL TL T64
theorem cutS_to (x : Str) (k : Nat) : cutS x none (some (k : Int)) = mk ((tl x).take k) := by
  unfold cutS
  rw [HT.sIx_nat]
  refine ext_tl ?_
  show ((tl x).drop 0).take (min k x.length - 0) = (tl x).take k
  simp only [List.drop_zero, Nat.sub_zero]
  rw [len_tl, ← List.take_take]
  rw [List.take_of_length_le (Nat.le_refl _)]
theorem turn_cut {rs : List Str} (hrs : ∀ x ∈ rs, Rec x) (hl : rs.length ≤ 12) {n : Nat} (hn : n ≤ (jtxt rs).length) {s1 s2 s5 s6 s7 s8 s9 s10 s11 s13 s14 s15 : SV} {Q : Out → En → Prop}
    (q : Q .nx [.no, s1, s2, .imm (.list (rs.map fun y => .str y)), .imm (.str (jtxt rs)), s5, s6, s7, s8, s9, s10, s11, .imm (.int (n : Int)), s13, s14, s15]) :
    Wp lb_law_p1_3 [.no, s1, s2, .imm (.list (rs.map fun y => .str y)), .imm (.str (jtxt rs)), s5, s6, s7, s8, s9, s10, s11, .imm (.int (n : Int)), s13, s14, s15] Q := by
  have hj : (jour 0 0 (rs.map tl)).length ≤ 73 * 12 := by
    have := jour_le (rs.map tl) 0 0 (by omega) (by simp; omega) (by omega) (by omega) fun r hr => by
      obtain ⟨x, hx, rfl⟩ := List.mem_map.mp hr
      exact (hrs x hx).len
    simp only [List.length_map] at this
    omega
  have yes : ∀ r ∈ rs.map tl, isRec r = true := fun r hr => by
    obtain ⟨x, hx, rfl⟩ := List.mem_map.mp hr
    exact (hrs x hx).yes
  have hasc : asc (jtxt rs) := fun c hc => jour_asc (rs.map tl) 0 0 (by omega) (by omega) (by omega) (fun r hr d hd => by
    obtain ⟨x, hx, rfl⟩ := List.mem_map.mp hr
    exact (hrs x hx).g.asc d hd) c hc
  have hlen : (jtxt rs).length ≤ 876 := by unfold jtxt; rw [mk_len]; omega
  have hcut : dSl (some (.str (jtxt rs))) none (some (n : Int)) = some (.str (cutS (jtxt rs) none (some (n : Int)))) := if_pos (by unfold LIM; omega)
  obtain ⟨k, last, h1, h2⟩ := cut_lines (c := 10) (ls := jlines 0 0 (rs.map tl)) n (jlines_free _ 0 0 (by omega) (by omega) (by omega) yes)
  rw [← jour_lines] at h1
  have hx : tl (cutS (jtxt rs) none (some (n : Int))) = (jour 0 0 (rs.map tl)).take n := by rw [cutS_to]; rfl
  have g1 : G (cutS (jtxt rs) none (some (n : Int))) := ⟨asc_cut hasc _ _, by have := cutS_length (jtxt rs) none (some (n : Int)); omega⟩
  unfold lb_law_p1_3
  repeat (walk_at "dl two")
  refine optk_ok hcut ?_
  repeat (walk_at "dl two")
  obtain ⟨ls, last', hc, hj', hl', _⟩ := lines_of 10 (tl (cutS (jtxt rs) none (some (n : Int)))).length _ (Nat.le_refl _)
  have e2 : ls ++ [last'] = (jlines 0 0 (rs.map tl)).take k ++ [last] := by rw [← hc, hx, h1]
  obtain ⟨e3, e4⟩ := List.append_inj' e2 rfl
  cases e4
  subst e3
  refine (opened_ok g1 hc (lines_g g1 hj') (lines_n g1 hj')).mono fun rr out ⟨ss, k1, op, k2⟩ => ?_
  have eo := Opens.uniq (by omega) (by omega) (by omega) op (opens_take (rs.map tl) 0 0 k yes)
  subst eo k1 k2
  repeat (walk_at "dl two")
  have hcut2 : dSl (some (.str (jtxt rs))) none (some (n : Int)) = some (.str (cutS (jtxt rs) none (some (n : Int)))) := hcut
  refine optk_ok hcut2 ?_
  repeat (walk_at "dl two")
  have hs : dSplit (cutS (jtxt rs) none (some (n : Int))) (.str ⟨#[10]⟩) = some (PySem.Txt.split (cutS (jtxt rs) none (some (n : Int))) ⟨#[10]⟩) := if_pos ⟨rfl, by have := cutS_length (jtxt rs) none (some (n : Int)); unfold LIM; omega⟩
  rw [nl_eq]
  refine optk_ok hs ?_
  have hsl : (PySem.Txt.split (cutS (jtxt rs) none (some (n : Int))) ⟨#[10]⟩).length = k + 1 := by
    have := congrArg List.length (split_cutc (cutS (jtxt rs) none (some (n : Int))) 10 (by decide))
    rw [hx, h1] at this
    simpa [h2] using this
  repeat (walk_at "dl two")
  have ek : cutL (rs.map fun y => PyData.str y) none (some (((((PySem.Txt.split (cutS (jtxt rs) none (some (n : Int))) ⟨#[10]⟩).map fun y => PyData.str y).length : Nat) : Int) - 1)) = (rs.take k).map fun y => PyData.str y := by
    rw [List.length_map, hsl, cut_map]
    have e : (((k + 1 : Nat) : Int) - 1) = (k : Int) := by omega
    rw [e]
    congr 1
    unfold cutL
    rw [HT.sIx_nat]
    show (rs.drop 0).take (min k rs.length - 0) = _
    rw [List.drop_zero, Nat.sub_zero, ← List.take_take, List.take_of_length_le (Nat.le_refl _)]
  have e5 : ((List.take k (rs.map tl)).map fun r => PyData.str (mk r)) = (rs.take k).map fun y => PyData.str y := by
    rw [← List.map_take, List.map_map]
    exact List.map_congr_left fun x _ => by simp [mk_tl']
  rw [ek, e5]
  have hsub : ∀ y ∈ rs.take k, asc y ∧ y.length ≤ 30 := fun y hy => by
    have := hrs y (List.mem_of_mem_take hy)
    exact ⟨this.g.asc, by rw [len_tl]; exact this.len⟩
  have hS : Shn (.tuple ((rs.take k).map fun y => PyData.str y)) := by
    refine shn_tup (plain_strs fun y hy => (hsub y hy).1) ?_ ?_
    · have h1 := cost_strs (rs.take k) 30 fun y hy => (hsub y hy).2
      have h2 : (rs.take k).length ≤ 12 := by rw [List.length_take]; omega
      have h3 : (rs.take k).length * (10 * 30 + 4) ≤ 12 * (10 * 30 + 4) := Nat.mul_le_mul_right _ h2
      unfold LIM
      omega
    · have := depth_strs (rs.take k)
      simp only [PyData.depth]
      omega
  refine (alike_ok hS).mono fun rr out ⟨k1, k2⟩ => ?_
  subst k1 k2
  repeat (walk_at "dl two")
  exact q
theorem loop_cut {rs : List Str} (hrs : ∀ x ∈ rs, Rec x) (hl : rs.length ≤ 12) {ds : List Dt} (hds : ∀ d ∈ ds, ∃ n : Nat, d = .int (n : Int) ∧ n ≤ (jtxt rs).length) {s1 s2 s5 s6 s7 s8 s9 s10 s11 s12 s13 s14 s15 : SV} (p12 : isPin s12 = false) {Q : Out → En → Prop}
    (q : ∀ s12', isPin s12' = false → Q .nx [.no, s1, s2, .imm (.list (rs.map fun y => .str y)), .imm (.str (jtxt rs)), s5, s6, s7, s8, s9, s10, s11, s12', s13, s14, s15]) :
    Wp (mForL (mgN 12) lb_law_p1_3 ds) [.no, s1, s2, .imm (.list (rs.map fun y => .str y)), .imm (.str (jtxt rs)), s5, s6, s7, s8, s9, s10, s11, s12, s13, s14, s15] Q := by
  refine wp_forL (fun done rest ρ => ∃ s12', isPin s12' = false ∧ ρ = [.no, s1, s2, .imm (.list (rs.map fun y => .str y)), .imm (.str (jtxt rs)), s5, s6, s7, s8, s9, s10, s11, s12', s13, s14, s15]) ⟨s12, p12, rfl⟩ ?_ ?_
  · rintro done d rest ρ he ⟨s12', h12, rfl⟩
    obtain ⟨n, rfl, hn⟩ := hds d (by rw [he]; simp)
    refine ⟨_, by unfold mgN; simp only [List.getElem?_cons_succ, List.getElem?_cons_zero, h12]; rfl, ?_⟩
    exact turn_cut hrs hl hn (after_nx ⟨_, rfl, rfl⟩)
  · rintro ρ ⟨s12', h12, rfl⟩
    exact q s12' h12
end W
end
section
set_option maxRecDepth 100000
set_option maxHeartbeats 400000
namespace W
open PySem L2 DL TL T64
theorem ws_tgT2 {i j : Nat} {s t : SV} {a b : Dt} {ρ : En} {Q : Out → En → Prop} (hi : ρ[i]? = some s) (hj : (ρ.set i (.imm a))[j]? = some t) (hs : isPin s = false) (ht : isPin t = false) (k : Q .nx ((ρ.set i (.imm a)).set j (.imm b))) : TgK (mgT [mgN i, mgN j]) Q (.tuple [a, b]) ρ := by
  refine ⟨_, ?_, k⟩
  show mgs [mgN i, mgN j] [a, b] ρ = _
  simp [mgs, mgN, hi, hs, hj, ht]
theorem put_2 {i j : Nat} {s t : SV} {x y : SV} {ρ : En} {Q : Out → En → Prop} (hi : ρ[i]? = some s) (hj : (ρ.set i x)[j]? = some t) (hs : isPin s = false) (ht : isPin t = false) (k : Q .nx ((ρ.set i x).set j y)) : PutK (putSs [i, j] [x, y] ρ) Q := by
  refine ⟨_, ?_, k⟩
  simp [putSs, putS, hi, hs, hj, ht]
theorem intsD_map (l : List Int) : intsD (l.map fun i => PyData.int i) = some l := by
  induction l with
  | nil => rfl
  | cons x l ih =>
    show (intsD (l.map fun i => PyData.int i)).map (x :: ·) = _
    rw [ih]
    rfl
theorem turn_law {b : List Dt} (hb : Bag b) {s2 s3 s4 s5 s6 s7 s8 s9 s10 s11 s12 s13 s14 s15 : SV} (k9 : kind s9 ≤ 1) (p3 : isPin s3 = false) (p4 : isPin s4 = false) (p5 : isPin s5 = false) (p6 : isPin s6 = false) (p7 : isPin s7 = false) (p8 : isPin s8 = false) (p9 : isPin s9 = false)
    (p10 : isPin s10 = false) (p11 : isPin s11 = false) (p12 : isPin s12 = false) {Q : Out → En → Prop}
    (q : ∀ b' s9' s10' s11' s12' d3 d4 d5 d6 d7 d8, Bag b' → kind s9' ≤ 1 → isPin s10' = false → isPin s11' = false → isPin s12' = false → Q .nx [.no, .lst false b', s2, .imm d3, .imm d4, .imm d5, .imm d6, .imm d7, .imm d8, s9', s10', s11', s12', s13, s14, s15]) :
    Wp lb_law_p1_6 [.no, .lst false b, s2, s3, s4, s5, s6, s7, s8, s9, s10, s11, s12, s13, s14, s15] Q := by
  unfold lb_law_p1_6
  repeat (walk_at "dl two")
  refine (some_ok (ds := [.int 0, .int 1, .int 3, .int 12, .int 5]) hb (by simp) (by simp)).mono fun rr out ⟨d, b1, k1, hd, k2, h1⟩ => ?_
  obtain ⟨j, rfl, j0, j1⟩ : ∃ j : Int, d = .int j ∧ 0 ≤ j ∧ j ≤ 12 := by
    simp only [List.mem_cons, List.not_mem_nil, or_false] at hd
    rcases hd with rfl | rfl | rfl | rfl | rfl <;> exact ⟨_, rfl, by omega, by omega⟩
  subst k1 k2
  have jr : -1000000 ≤ j ∧ j ≤ 1000000 := by omega
  repeat (walk_at "dl two")
  refine lck_ok (by show (decide (kind s9 ≤ 1) && true) = true; simp [k9]) rfl ?_
  have hlen : (rangeD 0 j.toNat).length = j.toNat := rangeD_len _ _
  refine wp_lcGo (fun done rest acc ρ => ∃ b', Bag b' ∧ ρ = [.no, .lst false b', s2, s3, s4, s5, s6, s7, s8, .no, s10, s11, s12, s13, s14, s15] ∧ ∃ rs : List Str, acc = rs.map (fun y => PyData.str y) ∧ rs.length = done.length ∧ ∀ x ∈ rs, Rec x) ⟨b1, h1, rfl, [], rfl, rfl, by simp⟩ ?_ ?_
  · rintro done d rest acc ρ he ⟨b2, h2, rfl, rs, rfl, hl, hrs⟩
    refine ⟨_, rfl, ?_⟩
    unfold el_law_p1_5
    repeat (walk_at "dl two")
    refine (rec_ok h2).mono fun rr out ⟨x, b3, k1, hx, k2, h3⟩ => ?_
    subst k1 k2
    repeat (walk_at "dl two")
    have hd : done.length < j.toNat := by rw [← hlen, he]; simp
    refine ⟨by simp only [List.length_map]; unfold LIM; omega, by intro g hg; simp at hg, b3, h3, rfl, rs ++ [x], by simp, by simp [hl], ?_⟩
    intro y hy
    rcases List.mem_append.mp hy with k | k
    · exact hrs y k
    · simp at k; rw [k]; exact hx
  rintro acc ρ ⟨b2, h2, rfl, rs, rfl, hl, hrs⟩
  rw [hlen] at hl
  have hl12 : rs.length ≤ 12 := by omega
  repeat (walk_at "dl two")
  have yes : ∀ r ∈ rs.map tl, isRec r = true := fun r hr => by
    obtain ⟨x, hx, rfl⟩ := List.mem_map.mp hr
    exact (hrs x hx).yes
  have hj : (jour 0 0 (rs.map tl)).length ≤ 73 * 12 := by
    have := jour_le (rs.map tl) 0 0 (by omega) (by simp; omega) (by omega) (by omega) fun r hr => by
      obtain ⟨x, hx, rfl⟩ := List.mem_map.mp hr
      exact (hrs x hx).len
    simp only [List.length_map] at this
    omega
  have hasc : asc (jtxt rs) := fun c hc => jour_asc (rs.map tl) 0 0 (by omega) (by omega) (by omega) (fun r hr d hd => by
    obtain ⟨x, hx, rfl⟩ := List.mem_map.mp hr
    exact (hrs x hx).g.asc d hd) c hc
  have htl : (jtxt rs).length ≤ 876 := by unfold jtxt; rw [mk_len]; omega
  have g1 : G (jtxt rs) := ⟨hasc, by omega⟩
  have hsub : ∀ y ∈ rs, asc y ∧ y.length ≤ 30 := fun y hy => ⟨(hrs y hy).g.asc, by rw [len_tl]; exact (hrs y hy).len⟩
  have hcost : costAll (rs.map fun y => PyData.str y) ≤ 12 * (10 * 30 + 4) := Nat.le_trans (cost_strs rs 30 fun y hy => (hsub y hy).2) (Nat.mul_le_mul_right _ hl12)
  have hdep := depth_strs rs
  have hpl := plain_strs fun y hy => (hsub y hy).1
  have hS : Shn (.list (rs.map fun y => PyData.str y)) := by
    refine shn_list hpl ?_ ?_
    · unfold LIM; omega
    · simp only [PyData.depth]; omega
  have hS3 : Shn (.list [.str (jtxt rs), .str (jtxt rs), .tuple (rs.map fun y => PyData.str y)]) := by
    refine shn_list ⟨hasc, hasc, hpl, trivial⟩ ?_ ?_
    · simp only [costAll, cost]; unfold LIM; omega
    · simp only [PyData.depth, PyData.depthAll]; omega
  refine (ljournal_ok (rs := rs) rfl (by omega)).mono fun rr out ⟨k1, k2⟩ => ?_
  subst k1 k2
  repeat (walk_at "dl two")
  refine c1_any rfl hS.rep ?_
  repeat (walk_at "dl two")
  refine ws_tgT2 rfl rfl p4 p5 ?_
  repeat (walk_at "dl two")
  refine (journal_ok (rs := rs) rfl (by omega)).mono fun rr out ⟨k1, k2⟩ => ?_
  subst k1 k2
  repeat (walk_at "dl two")
  refine (journal_ok (rs := rs) rfl (by omega)).mono fun rr out ⟨k1, k2⟩ => ?_
  subst k1 k2
  repeat (walk_at "dl two")
  have hfree := jlines_free (rs.map tl) 0 0 (by omega) (by omega) (by omega) yes
  have ejt : tl (jtxt rs) = ((jlines 0 0 (rs.map tl)).map (· ++ [10])).flatten ++ [] := by rw [List.append_nil, ← jour_lines]; rfl
  have hc : cutc 10 (tl (jtxt rs)) = jlines 0 0 (rs.map tl) ++ [[]] := by rw [ejt]; exact cutc_lines hfree (by simp)
  refine (opened_ok g1 hc (lines_g g1 ejt) (lines_n g1 ejt)).mono fun rr out ⟨ss, k1, op, k2⟩ => ?_
  have eo := Opens.uniq (by omega) (by omega) (by omega) op (opens_jlines (rs.map tl) 0 0 yes)
  subst eo k1 k2
  have e5 : ((rs.map tl).map fun r => PyData.str (mk r)) = rs.map fun y => PyData.str y := by
    rw [List.map_map]
    exact List.map_congr_left fun x _ => by simp [mk_tl']
  rw [e5]
  repeat (walk_at "dl two")
  refine (alike_ok hS3).mono fun rr out ⟨k1, k2⟩ => ?_
  subst k1 k2
  repeat (walk_at "dl two")
  refine c1_any rfl hS.rep ?_
  repeat (walk_at "dl two")
  rw [eqv_str, beq_self_eq_true]
  repeat (walk_at "dl two")
  refine (take_ok h2 (n := 1000000007) (by omega) (by omega)).mono fun rr out ⟨ah, b3, k1, a0, a1, k2, h3⟩ => ?_
  subst k1 k2
  repeat (walk_at "dl two")
  refine (rec_ok h3).mono fun rr out ⟨r, b4, k1, hr, k2, h4⟩ => ?_
  subst k1 k2
  repeat (walk_at "dl two")
  refine put_2 rfl rfl p7 p8 ?_
  repeat (walk_at "dl two")
  refine (sum_ok ah r).mono fun rr out ⟨k1, k2⟩ => ?_
  subst k1 k2
  repeat (walk_at "dl two")
  refine (sum_ok 0 r).mono fun rr out ⟨k1, k2⟩ => ?_
  subst k1 k2
  repeat (walk_at "dl two")
  refine (lsum_ok ah r).mono fun rr out ⟨k1, k2⟩ => ?_
  subst k1 k2
  repeat (walk_at "dl two")
  refine (lsum_ok 0 r).mono fun rr out ⟨k1, k2⟩ => ?_
  subst k1 k2
  repeat (walk_at "dl two")
  have hS2 : Shn (.list [.int (sumB ah (tl r)), .int (sumB 0 (tl r))]) := by
    have h1 := sumB_range (tl r) ah a0 a1
    have h2 := sumB_range (tl r) 0 (by omega) (by omega)
    refine shn_list ⟨⟨h1.1, by omega⟩, ⟨h2.1, by omega⟩, trivial⟩ (by simp [costAll, cost, LIM]) ?_
    simp [PyData.depth, PyData.depthAll]
  refine (alike_ok hS2).mono fun rr out ⟨k1, k2⟩ => ?_
  subst k1 k2
  repeat (walk_at "dl two")
  refine loop_bent (fun d hd => ?_) hasc (by omega) h4 hr p9 p10 p11 fun b5 s9' s10' s11' h5 q9 q10 q11 qo => ?_
  · obtain ⟨i, hi⟩ := List.getElem?_of_mem hd
    exact ⟨_, (rangeD_get hi).2⟩
  repeat (walk_at "dl two")
  have k9' : kind s9' ≤ 1 := by
    have h1 : isOwn s9 = false := by unfold isOwn; simp; omega
    have h2 := qo h1
    unfold isOwn at h2
    simp at h2
    omega
  refine lck_ok (by show (decide (kind s9' ≤ 1) && true) = true; simp [k9']) rfl ?_
  refine wp_lcGo (fun done rest acc ρ => ∃ b', Bag b' ∧ ρ = [.no, .lst false b', s2, .imm (.list (rs.map fun y => .str y)), .imm (.str (jtxt rs)), .imm (.str (PyData.list (rs.map fun y => .str y)).shown), .imm (.list [.str (jtxt rs), .str (jtxt rs), .tuple (rs.map fun y => .str y)]), .imm (.int ah), .imm (.str r), .no, s10', s11', s12, s13, s14, s15] ∧ acc.length = done.length ∧ ∃ ns : List Nat, acc = ns.map (fun (n : Nat) => PyData.int (n : Int)) ∧ ∀ n ∈ ns, n ≤ (jtxt rs).length) ⟨b5, h5, rfl, rfl, [], rfl, by simp⟩ ?_ ?_
  · rintro done d rest acc ρ he ⟨b6, h6, rfl, hal, ns, rfl, hns⟩
    refine ⟨_, rfl, ?_⟩
    unfold el_law_p1_2
    repeat (walk_at "dl two")
    refine c1_any rfl (dLen_str (by unfold LIM; omega)) ?_
    repeat (walk_at "dl two")
    refine (take_ok h6 (n := ((jtxt rs).length : Int) + 1) (by omega) (by omega)).mono fun rr out ⟨v, b7, k1, v0, v1, k2, h7⟩ => ?_
    subst k1 k2
    repeat (walk_at "dl two")
    obtain ⟨m, rfl⟩ : ∃ m : Nat, v = (m : Int) := ⟨v.toNat, by omega⟩
    have hd : done.length < 5 := by
      have := congrArg List.length he
      rw [rangeD_len] at this
      simp at this
      omega
    refine ⟨by unfold LIM; omega, by intro g hg; simp at hg, b7, h7, rfl, by simp at hal ⊢; omega, ns ++ [m], by simp, ?_⟩
    intro y hy
    rcases List.mem_append.mp hy with k | k
    · exact hns y k
    · simp at k; omega
  rintro acc ρ ⟨b6, h6, rfl, hal, ns, rfl, hns⟩
  repeat (walk_at "dl two")
  have hi : dSortI (.list (ns.map fun (n : Nat) => PyData.int (n : Int))) = some (.lst false ((sortI (ns.map fun (n : Nat) => (n : Int))).map fun n => .int n)) := by
    have e : (ns.map fun (n : Nat) => PyData.int (n : Int)) = (ns.map fun (n : Nat) => (n : Int)).map fun i => PyData.int i := by rw [List.map_map]; rfl
    rw [e]
    show (intsD _).map _ = _
    rw [intsD_map]
    rfl
  refine c1_any rfl hi ?_
  repeat (walk_at "dl two")
  refine fork_ok ?_
  refine loop_cut hrs hl12 (fun d hd => ?_) p12 fun s12' q12 => ?_
  · obtain ⟨i, hi, rfl⟩ := List.mem_map.mp hd
    have hm := (sortI_perm (ns.map fun (n : Nat) => (n : Int))).mem_iff.mp hi
    obtain ⟨n, hn, rfl⟩ := List.mem_map.mp hm
    exact ⟨n, rfl, hns n hn⟩
  repeat (walk_at "dl two")
  exact q b6 s9' s10' s11' s12' _ _ _ _ _ _ h6 k9' q10 q11 q12
end W
end
section
set_option maxRecDepth 100000
set_option maxHeartbeats 400000
namespace W
open PySem L2 DL TL T64
def Odd (d : Dt) : Prop := d ∈ [PyData.none, .int 5, .bool true, .list [.str "a"], .tuple [.str "a"], .dict []]
def Bad (d : Dt) : Prop := d ∈ [PyData.none, .str "", .str "a\nb", .int 5, .list [.str "a"], .bool true]
theorem law_turns {b : List Dt} (hb : Bag b) {Q : Out → En → Prop}
    (q : ∀ b' s2 s3 s4 s5 s6 s7 s8 s9 s10 s11 s12, Bag b' → Q .nx [.no, .lst false b', s2, s3, s4, s5, s6, s7, s8, s9, s10, s11, s12, .no, .no, .no]) :
    Wp mp_law_1 [.no, .lst false b, .no, .no, .no, .no, .no, .no, .no, .no, .no, .no, .no, .no, .no, .no] Q := by
  unfold mp_law_1
  repeat (walk_at "dl one")
  refine wp_forL (fun done rest ρ => ∃ b' s2 s3 s4 s5 s6 s7 s8 s9 s10 s11 s12, Bag b' ∧ isPin s2 = false ∧ isPin s3 = false ∧ isPin s4 = false ∧ isPin s5 = false ∧ isPin s6 = false ∧ isPin s7 = false ∧ isPin s8 = false ∧ kind s9 ≤ 1 ∧ isPin s9 = false ∧ isPin s10 = false ∧ isPin s11 = false ∧ isPin s12 = false ∧
      ρ = [.no, .lst false b', s2, s3, s4, s5, s6, s7, s8, s9, s10, s11, s12, .no, .no, .no]) ⟨b, .no, .no, .no, .no, .no, .no, .no, .no, .no, .no, .no, hb, rfl, rfl, rfl, rfl, rfl, rfl, rfl, Nat.zero_le _, rfl, rfl, rfl, rfl, rfl⟩ ?_ ?_
  · rintro done d rest ρ he ⟨b', s2, s3, s4, s5, s6, s7, s8, s9, s10, s11, s12, hb', p2, p3, p4, p5, p6, p7, p8, k9, p9, p10, p11, p12, rfl⟩
    refine ⟨_, by unfold mgN; simp only [List.getElem?_cons_succ, List.getElem?_cons_zero, p2]; rfl, ?_⟩
    refine turn_law hb' k9 p3 p4 p5 p6 p7 p8 p9 p10 p11 p12 fun b2 t9 t10 t11 t12 d3 d4 d5 d6 d7 d8 h2 k9' q10 q11 q12 => after_nx ?_
    refine ⟨b2, _, _, _, _, _, _, _, t9, t10, t11, t12, h2, rfl, rfl, rfl, rfl, rfl, rfl, rfl, k9', ?_, q10, q11, q12, rfl⟩
    exact pin_own (by unfold isOwn; simp; omega)
  · rintro ρ ⟨b', s2, s3, s4, s5, s6, s7, s8, s9, s10, s11, s12, hb', p2, p3, p4, p5, p6, p7, p8, k9, p9, p10, p11, p12, rfl⟩
    exact q b' s2 s3 s4 s5 s6 s7 s8 s9 s10 s11 s12 hb'
theorem law_odd {b : List Dt} (hb : Bag b) {s2 s3 s4 s5 s6 s7 s8 s9 s10 s11 s12 : SV} {Q : Out → En → Prop}
    (q : ∀ b' d, Bag b' → Odd d → Q .nx [.no, .lst false b', s2, s3, s4, s5, s6, s7, s8, s9, s10, s11, s12, .imm d, .no, .no]) :
    Wp mp_law_2 [.no, .lst false b, s2, s3, s4, s5, s6, s7, s8, s9, s10, s11, s12, .no, .no, .no] Q := by
  unfold mp_law_2 mDic0
  repeat (walk_at "dl one")
  refine (some_ok (ds := [.none, .int 5, .bool true, .list [.str "a"], .tuple [.str "a"], .dict []]) hb (by simp) (by simp)).mono fun rr out ⟨d, b1, k1, hd, k2, h1⟩ => ?_
  subst k1 k2
  repeat (walk_at "dl one")
  exact q b1 d h1 hd
theorem law_bad {b : List Dt} (hb : Bag b) {s2 s3 s4 s5 s6 s7 s8 s9 s10 s11 s12 s13 : SV} {Q : Out → En → Prop}
    (q : ∀ b' d, Bag b' → Bad d → Q .nx [.no, .lst false b', s2, s3, s4, s5, s6, s7, s8, s9, s10, s11, s12, s13, .imm d, .no]) :
    Wp mp_law_3 [.no, .lst false b, s2, s3, s4, s5, s6, s7, s8, s9, s10, s11, s12, s13, .no, .no] Q := by
  unfold mp_law_3
  repeat (walk_at "dl one")
  refine (some_ok (ds := [.none, .str "", .str "a\nb", .int 5, .list [.str "a"], .bool true]) hb (by simp) (by simp)).mono fun rr out ⟨d, b1, k1, hd, k2, h1⟩ => ?_
  subst k1 k2
  repeat (walk_at "dl one")
  exact q b1 d h1 hd
/-- what the law has drawn ahead of its last part -/
theorem law_part {b : List Dt} (hb : Bag b) : ∃ ρ' odd bad, mSeq mp_law_1 (mSeq mp_law_2 mp_law_3) [.no, .lst false b, .no, .no, .no, .no, .no, .no, .no, .no, .no, .no, .no, .no, .no, .no] = some (.nx, ρ') ∧ Odd odd ∧ Bad bad ∧ ρ'[13]? = some (.imm odd) ∧ ρ'[14]? = some (.imm bad) ∧ ρ'[15]? = some .no := by
  have h : Wp (mSeq mp_law_1 (mSeq mp_law_2 mp_law_3)) [.no, .lst false b, .no, .no, .no, .no, .no, .no, .no, .no, .no, .no, .no, .no, .no, .no] fun o ρ' => o = .nx ∧ ∃ odd bad, Odd odd ∧ Bad bad ∧ ρ'[13]? = some (.imm odd) ∧ ρ'[14]? = some (.imm bad) ∧ ρ'[15]? = some .no := by
    refine ws_mSeq (law_turns hb fun b1 s2 s3 s4 s5 s6 s7 s8 s9 s10 s11 s12 h1 => ws_nx (ws_mSeq (law_odd h1 fun b2 d h2 hd => ws_nx (law_bad h2 fun b3 e h3 he => ⟨rfl, d, e, hd, he, rfl, rfl, rfl⟩))))
  obtain ⟨o, ρ', e, rfl, odd, bad, h1, h2, h3, h4, h5⟩ := h
  exact ⟨ρ', odd, bad, e, h1, h2, h3, h4, h5⟩
end W
end
section
set_option maxRecDepth 100000
set_option maxHeartbeats 400000
namespace W
open PySem L2 DL TL T64
theorem ws_mIsT {ρ : En} {t : BT} {m : M Dt} {Q : Dt → En → Prop} (h : Wp m ρ fun d ρ1 => Q (.bool (isBT t d)) ρ1) : Wp (mIsT t m) ρ Q := by
  unfold mIsT
  rw [wp_bnd]
  exact h.mono fun d ρ1 q => wp_ret.mpr q
/-- no record: no text -/
theorem isrec_no {d : Dt} (h : isBT .str d = false) : WpF W2.m_is_record [.imm d] fun r _ => r = .val (.bool false) := by
  unfold W2.m_is_record
  refine wpF_of fun K kr kn => ?_
  unfold W2.b_is_record
  repeat (walk_at "dl one")
  refine ws_mIsT ?_
  repeat (walk_at "dl one")
  rw [h]
  repeat (walk_at "dl one")
  exact kr _ _ rfl
theorem m3_is : W3.m_is_record = m_is_record := rfl
theorem m3_op : W3.m_opened = m_opened := rfl
/-- what is bad is no record -/
theorem bad_or {d : Dt} (h : Bad d) : isBT .str d = false ∨ ∃ x, d = .str x ∧ G x ∧ isRec (tl x) = false := by
  simp only [Bad, List.mem_cons, List.not_mem_nil, or_false] at h
  rcases h with rfl | rfl | rfl | rfl | rfl | rfl
  · exact .inl rfl
  · exact .inr ⟨_, rfl, ⟨by decide +kernel, by decide +kernel⟩, by decide +kernel⟩
  · exact .inr ⟨_, rfl, ⟨by decide +kernel, by decide +kernel⟩, by decide +kernel⟩
  · exact .inl rfl
  · exact .inl rfl
  · exact .inl rfl
theorem odd_no {d : Dt} (h : Odd d) : isBT .str d = false := by
  simp only [Odd, List.mem_cons, List.not_mem_nil, or_false] at h
  rcases h with rfl | rfl | rfl | rfl | rfl | rfl <;> rfl
theorem isrec_bad {x : Str} (g : G x) (h : isRec (tl x) = false) : WpF W3.m_is_record [.imm (.str x)] fun r _ => r = .val (.bool false) := by
  rw [m3_is]
  exact (isrec_ok g).mono fun r out ⟨e, _⟩ => by rw [e, h]
theorem opened_emp : WpF W3.m_opened [.imm (.str "")] fun r _ => r = .val (.tuple []) := by
  rw [m3_op]
  refine (opened_ok (x := "") ⟨by decide +kernel, by decide +kernel⟩ (ls := []) (last := []) (by decide +kernel) (by simp) (by simp)).mono fun r out ⟨rs, e, op, _⟩ => ?_
  cases op
  exact e
end W
end
section
set_option maxRecDepth 100000
set_option maxHeartbeats 2000000
namespace W
open PySem PySem.Spec PyProof.Rows L2 DL TL T64
/-! ### the error, by hand -/
abbrev s_init : Stmt := L2.inClass (top 2) 0
theorem sc_init : FnScope ["self", "place"] ["self", "place"] (defScope s_init) := ⟨rfl, rfl, rfl, by decide +kernel, rfl, by decide +kernel, by decide +kernel⟩
structure TxtX (K : PySem.W.Frag) (mg : Str → Option Value) (C S fI : Addr) : Prop where
  gW : mg "Wrong" = some (.ref C)
  gS : mg "StrewError" = some (.ref S)
  T : OexC K C
  iC : PySem.W.findIn K (.ref C) "__init__" = some (some (.ref fI))
  tI : PySem.W.typeIn K (.ref fI) = some (.type "function")
  xf : XfC K C
  noP : PySem.W.findIn K (.ref C) "place" = some none
  spS : PySem.W.specialIn K (.ref S) "__getattribute__" = some (some (.builtin "type.__getattribute__"))
  rdS : PySem.W.readsIn K S (.type "type") = true
  fvS : PySem.W.findCls K (.ref S) (.type "type") "__init__" = some (.val (.builtin "ValueError.__init__"))
  em : PySem.W.exmOne K (.ref C) (.ref C) = some true
def spInit (C : Addr) : Sp := fun vs H Q _ => ∃ (a : Addr) (y : V), vs = [.ref a, y] ∧ H a = some (exo a C none) ∧ ∀ d, H d = none → d ≠ a → Q .non (upd (upd H d (exd d [("place", y)])) a (exo a C (some d)))
/-- an error's own dict, new -/
def errAt (C : Addr) (H : Hp) (i : Int) (E : XK) : Prop := ∀ (dd : Addr) (H' : Hp), Ex H H' → H' dd = some (.xd [("place", .int i)]) → E (.ref C) (some dd) H'
def spOddX (C : Addr) : Sp := fun vs H _ E => ∃ v d, vs = [v] ∧ Rp H v d ∧ isBT .str d = false ∧ errAt C H 0 E
def spWithX (C : Addr) : Sp := fun vs H _ E => ∃ v u d e, vs = [v, u] ∧ Rp H v d ∧ Rp H u e ∧ ((isBT .str d = false ∧ errAt C H 0 E) ∨ (d = .str "" ∧ Bad e ∧ errAt C H 1 E))
section
variable {P : Program} {w : World} {K : PySem.W.Frag} {mg : Str → Option Value} {base : Heap} {C S fI : Addr} {fdI : FuncData}
theorem ok_init {f : Addr} {fd : FuncData} (X : TxtX K mg C S f) (F : Fun K "__init__" "Wrong.__init__" s_init f fd) : FnOk P w K mg base CX0 1 f fd ["self", "place"] (spInit C) := by
  refine F.ok sc_init (fun vs H Q E h => ?_) (fun cdv A outer s H vs Q E hr h => ⟨_, pss_cons (ps_expr (pe_sinit rfl X.gS X.spS X.rdS X.fvS (pa_cons (pe_var (i := 0) rfl (.inl rfl)) (pa_cons (pe_var (i := 1) rfl (.inl rfl)) pa_nil)) (by decide)))
    (pss_one (ps_ost (pe_var (i := 0) rfl (.inl rfl)) (pe_var (i := 1) rfl (.inl rfl)))), ?_⟩)
  · obtain ⟨a, y, rfl, _⟩ := h; rfl
  · obtain ⟨a, y, rfl, ea, q⟩ := h
    refine ⟨_, rfl, _, rfl, a, C, [y], rfl, by simp, X.T, ea, ?_⟩
    exact ⟨y, rfl, _, rfl, a, C, rfl, X.T, X.noP, .inl ⟨ea, fun dx n ne => q dx n ne⟩⟩
/-- raise Wrong(i) -/
theorem ps_wrong {Y : Cx} {i : Int} {j : Nat} {p1 p2 p3 pos : Pos} {Wo : WX} (X : TxtX Y.K Y.mg C S fI) (FI : FnOk Y.prog Y.w Y.K Y.mg Y.base CX0 1 fI fdI ["self", "place"] (spInit C)) (bI : Binds Y.K fdI ["self", "place"] []) (hr : Room 2 Y.A) (hc : Y.calm = true) (hg : Gl Y "Wrong") (tk : Takes Y Wo)
    (he : starEach [.Constant (.int i) j p2] Y.env = (false, eval (.Constant (.int i) j p2) Y.env) :: starEach [] Y.env := by rfl) :
    PS Y (.Raise (some (.Call (.Name "Wrong" p1) [.Constant (.int i) j p2] [] p3)) none pos) (fun _ σ H => ∀ d, H d = none → Wo (.ref C) (some d) σ (upd H d (.xd [("place", .int i)]))) := by
  have h := ps_raise (pos := pos) (W := Wo) hc tk (pmk_oex (p := p1) (pos := p3) X.T X.iC X.tI FI hr bI .nil pass0 hg X.gW (pa_cons (pe_int (i := i) (j := j) (pos := p2)) pa_nil) (he := he))
  refine ⟨fun pins s σ H D I q => h.run pins s σ H D I ?_⟩
  refine ⟨by simp, fun a na => ⟨a, .int i, rfl, upd_same, fun d nd hd => ⟨rfl, d, [("place", .int i)], upd_same, ?_, ?_, ?_⟩⟩⟩
  · rw [upd_ne hd, upd_same]
  · rw [upd_ne hd] at nd; exact nd
  · have hn : H d = none := by rw [upd_ne hd] at nd; exact nd
    have e : upd (del (upd (upd (upd H a (exo a C none)) d (exd d [("place", V.int i)])) a (exo a C (some d))) a) d (.xd [("place", V.int i)]) = upd H d (.xd [("place", .int i)]) := by
      funext b
      by_cases h1 : b = d
      · subst h1; rw [upd_same, upd_same]
      · rw [upd_ne h1, upd_ne h1]
        by_cases h2 : b = a
        · subst h2; rw [del_same, na]
        · rw [del_ne h2, upd_ne h2, upd_ne h1, upd_ne h2]
    rw [e]
    exact q d hn
/-- the test: no text -/
theorem no_text {d : Dt} {N : List Str} {v : V} {H : Hp} {R : Bool → Hp → Prop} (hv : Rp H v d) (hd : isBT .str d = false) (q : ∀ H', Ex H H' → R true H') : tNot (tB (tCB (rIsi K) (tCons (tVar 0) (tCons (tC (.ty BT.str.id)) tNil)))) (L2.start N [v]) H R := by
  have rl := rel_start (vs := [v]) (ds := [d]) N (.cons hv .nil)
  refine sim_not (sim_tst (sim_isT .str (ma := mV 0) sim_var)) _ true ([.imm d] ++ List.replicate (N.length - 1) .no) _ H H R ?_ rl fun G' H' g => q H' (g.exH ?_)
  · show mNot (mTst (mIsT .str (mV 0))) (.imm d :: List.replicate (N.length - 1) .no) = _
    simp [mNot, mTst, mIsT, mV, bnd, DL.ret, hd]
  · simp [isOwn, kind]
theorem ok_openedX {f : Addr} {fd : FuncData} (X : TxtX K mg C S fI) (T : Nms mg) (FI : FnOk P w K mg base CX0 1 fI fdI ["self", "place"] (spInit C)) (bI : Binds K fdI ["self", "place"] []) (F : Fun K "opened" "opened" s_opened f fd) : FnOk P w K mg base (L2.CX P w) 3 f fd ["text"] (spOddX C) := by
  refine F.okX sc_opened (fun vs H Q E h => ?_) (fun cdv A outer s H vs Q E hr h => ⟨_, pss_cons (ps_if (dt_not (dt_val (de_isT (K := K) .str T.isinstance T.str (de_var 0)))).pt (pss_one (ps_wrong X FI bI hr rfl rfl (takes_of rfl rfl rfl rfl))) pss_nil) pss_never, ?_⟩)
  · obtain ⟨v, d, rfl, _⟩ := h; rfl
  · obtain ⟨v, d, rfl, hv, hd, q⟩ := h
    unfold tSeq tIfS
    refine no_text hv hd fun H' e => ?_
    show if true = true then _ else _
    rw [if_pos rfl]
    exact fun dd nd => q dd _ (e.trans (Ex.new nd)) upd_same
/-- opened of a text that is empty -/
def spEmp : Sp := fun vs H Q _ => ∃ v, vs = [v] ∧ Rp H v (.str "") ∧ ∀ v' H', Ex H H' → Rp H' v' (.tuple []) → Q v' H'
def spIsBad : Sp := fun vs H Q _ => ∃ v d, vs = [v] ∧ Rp H v d ∧ Bad d ∧ ∀ H', Ex H H' → Q (.bl false) H'
theorem emp_of {vs : List V} {H : Hp} {Q : VK} {E : XK} (h : spEmp vs H Q E) : spD 1 W3.m_opened vs H Q E := by
  obtain ⟨v, rfl, hv, q⟩ := h
  exact spD_of (ds := [.str ""]) rfl opened_emp (.cons hv .nil) q
theorem isBad_of {vs : List V} {H : Hp} {Q : VK} {E : XK} (h : spIsBad vs H Q E) : spD 1 W2.m_is_record vs H Q E ∨ spD 1 W3.m_is_record vs H Q E := by
  obtain ⟨v, d, rfl, hv, hd, q⟩ := h
  have q' : ∀ v' H', Ex H H' → Rp H' v' (.bool false) → Q v' H' := fun v' H' e r => by cases r; exact q H' e
  rcases bad_or hd with k | ⟨x, rfl, g, k⟩
  · exact .inl (spD_of (ds := [d]) rfl (isrec_no k) (.cons hv .nil) q')
  · exact .inr (spD_of (ds := [.str x]) rfl (isrec_bad g k) (.cons hv .nil) q')
theorem ok_withX {f fO fR : Addr} {fd fdO fdR : FuncData} (X : TxtX K mg C S fI) (FI : FnOk P w K mg base CX0 1 fI fdI ["self", "place"] (spInit C)) (bI : Binds K fdI ["self", "place"] [])
    (FO : FnOk P w K mg base (L2.CX P w) 3 fO fdO ["text"] (fun vs H Q E => spOddX C vs H Q E ∨ spEmp vs H Q E)) (mO : mg "opened" = some (.ref fO)) (kO : PySem.W.keepIn K (.ref fO) = true) (bO : Binds K fdO ["text"] [])
    (FR : FnOk P w K mg base CX0 1 fR fdR ["thing"] spIsBad) (mR : mg "is_record" = some (.ref fR)) (kR : PySem.W.keepIn K (.ref fR) = true) (bR : Binds K fdR ["thing"] [])
    (F : Fun K "with_record" "with_record" s_with_record f fd) : FnOk P w K mg base (L2.CX P w) 4 f fd ["text", "record"] (spWithX C) := by
  refine F.okX sc_with_record (fun vs H Q E h => ?_) (fun cdv A outer s H vs Q E hr h => ⟨_, pss_cons (ps_set (i := 2) nd_with_record rfl (.inl rfl) (pe_callS FO hr rfl mO kO bO (fun σ => passAt (takes_of rfl rfl rfl rfl) σ) (pa_cons (pe_var (i := 0) rfl (.inl rfl)) pa_nil)))
    (pss_cons (ps_if (pt_not (pt_val (pe_call FR (hr.mono (by decide)) rfl mR kR bR .nil pass0 (pa_cons (pe_var (i := 1) rfl (.inl rfl)) pa_nil)))) (pss_one (ps_wrong X FI bI (hr.mono (by decide)) rfl rfl (takes_of rfl rfl rfl rfl))) pss_nil) pss_never), ?_⟩)
  · obtain ⟨v, u, d, e, rfl, _⟩ := h; rfl
  · obtain ⟨v, u, d, e, rfl, hv, hu, h⟩ := h
    refine ⟨v, rfl, ?_⟩
    rcases h with ⟨hd, q⟩ | ⟨rfl, he, q⟩
    · exact .inl ⟨v, d, rfl, hv, hd, q⟩
    · refine .inr ⟨v, rfl, hv, fun v' H1 e1 r1 => ?_⟩
      unfold tSeq tIfS
      refine ⟨u, rfl, u, e, rfl, Rp.ex e1 _ hu, he, fun H2 e2 => ⟨false, rfl, ?_⟩⟩
      show if true = true then _ else _
      rw [if_pos rfl]
      exact fun dd nd => q dd _ ((e1.trans e2).trans (Ex.new nd)) upd_same
end
end W
end
section
set_option maxRecDepth 100000
set_option maxHeartbeats 2000000
namespace W
open PySem PySem.Spec PyProof.Rows L2 DL TL T64 LamX
abbrev s__law_refused : Stmt := top 24
theorem sc__law_refused : FnScope ["act", "error"] ["act"] (defScope s__law_refused) := ⟨rfl, rfl, rfl, by decide +kernel, rfl, by decide +kernel, by decide +kernel⟩
theorem nd__law_refused : (["act", "error"] : List Str).Nodup := by decide +kernel
/-- told ("wrong", i) of a lambda that raises Wrong(i) -/
def TTw (C : Addr) : (XK → Hp → VK → Prop) → Hp → VK → Prop := fun tl H Q =>
  ∀ Q0 : VK, tl (fun cls d H' => cls = .ref C ∧ ∃ (dd : Addr) (i : Int), d = some dd ∧ H' dd = some (.xd [("place", .int i)]) ∧ ∀ p, H' p = none → Q (.ref p) (upd H' p (.tup [.str "wrong", .int i]))) H Q0
theorem refused_gives {X : Cx} {g : Addr} {cdg : Value} {C S fI : Addr} {q : Str} (T : TxtX X.K X.mg C S fI) : GivesTo X ["act", "error"] "_law_refused" (defScope s__law_refused) g cdg (defBody s__law_refused) "act" q (TTw C) := by
  intro f c' s H Q tl act hc h
  refine ⟨_, pss_one (ps_try_fst (X := (cxOf C8.CX0 X.prog X.w X.K X.mg X.base ["act", "error"] "_law_refused" (defScope s__law_refused) g cdg X.A X.stack s H C8.E0).nox) (c := .ref C) (i := 1)
      (tb := fun W D σ H => ∃ Ech : XK, (∀ cls d σ' H', Ech cls d H' → W cls d σ' H') ∧ σ[0]? = some (some (.ref f)) ∧ H c' = some (CodeO c' q) ∧ ∀ Q0 : VK, tl Ech H Q0)
      (ts := fun a cls d => tRet (tTup (tCons (tC (.str "wrong")) (tCons (tXf a cls d C "place" (tVar 1)) tNil))))
      rfl rfl nd__law_refused rfl rfl ⟨rfl, by decide, .inl T.gW⟩ (fun W pn xe tk _ => ?_) (fun a oe cls d pn hz hf => pss_one (ps_ret (pe_tup (pa_cons pe_str (pa_cons (pe_xf T.xf T.noP hz hf (pe_var (i := 1) rfl (.inl rfl))) pa_nil)))))), ?_⟩
  · refine ⟨fun pins s' σ H' D I h' => ?_⟩
    obtain ⟨Ech, hW, h1, h2, h3⟩ := h'
    refine PSs.run (t := tRet (tTup (tCons (tC (.str "told")) (tCons (fun σZ HZ Q => σZ[0]? = some (some (.ref f)) ∧ HZ c' = some (CodeO c' q) ∧ tl Ech HZ Q) tNil)))) ?_ pins s' σ H' D I ⟨h1, h2, h3 _⟩
    exact pss_one (ps_ret (pe_tup (pa_cons pe_str (pa_cons (act W pn xe Ech _ _ tk hW) pa_nil))))
  · refine ⟨_, fun cls d σ' H' hE => ?_, rfl, hc, fun Q0 => h Q0⟩
    obtain ⟨rfl, dd, i, rfl, ed, q⟩ := hE
    refine ⟨T.em, fun a na hl => ?_⟩
    have hl : σ'.length = 2 := hl
    refine ⟨.ref a, by rw [List.getElem?_set_self (by omega)], rfl, rfl, dd, _, _, rfl, ed, rfl, ?_⟩
    exact ⟨by show 2 ≤ sizeLine; decide, fun p hp => q p hp⟩
end W
end
section
set_option maxRecDepth 100000
set_option maxHeartbeats 4000000
namespace W
open PySem PySem.Spec PyProof.Rows L2 DL TL T64 LamX
/-! ### the bag -/
abbrev s__law_bag : Stmt := top 14
theorem sc__law_bag : FnScope ["script", "cell"] ["script"] (defScope s__law_bag) := ⟨rfl, rfl, rfl, by decide +kernel, rfl, by decide +kernel, by decide +kernel⟩
theorem nd__law_bag : (["script", "cell"] : List Str).Nodup := by decide +kernel
section
variable {P : Program} {w : World} {K : PySem.W.Frag} {mg : Str → Option Value} {base : Heap}
theorem ok__law_bag {f : Addr} {fd : FuncData} (mA : mg "abs" = none) (F : Fun K "_law_bag" "_law_bag" s__law_bag f fd) : FnOk P w K mg base CX0 1 f fd ["script"] (spBag K) :=
  F.ok sc__law_bag (fun vs H Q E h => by obtain ⟨a, ns, rfl, _⟩ := h; rfl) fun cdv A outer s H vs Q E hr h => ⟨_, pss_one (ps_ret (pe_lst (pa_cons pe_int (pa_cons pe_int (pa_cons pe_int (pa_cons
    (pe_lc (own := [("cell", 1)]) (g := gName 1) (tt := tYes) rfl nd__law_bag (pi_list (pe_slice sl_list (pe_var (i := 0) rfl (.inl rfl)) po_none (po_some pe_int))) (blkOk_by (by kernel_rfl)) (fun _ _ _ _ _ => pg_name (i := 1) nd__law_bag rfl (.inl rfl)) (fun _ _ _ _ _ => pts_nil)
      (fun _ _ _ _ _ => pe_callB call_abs (by rfl) mA (by decide +kernel) (pa_cons (pe_var (i := 1) rfl (.inl rfl)) pa_nil))) pa_nil)))))), bag_run h⟩
/-! ### the law's last part -/
mutual
theorem rp_extN {H H' : Hp} (e : ExtN H H') : ∀ {v : V} {d : Dt}, Rp H v d → Rp H' v d
  | _, _, .non => .non
  | _, _, .bl b => .bl b
  | _, _, .int i => .int i
  | _, _, .str x => .str x
  | _, _, .lst h1 h2 => .lst (e _ _ h1 (fun _ z => by cases z)) (rpAll_extN e h2)
  | _, _, .tup h1 h2 => .tup (e _ _ h1 (fun _ z => by cases z)) (rpAll_extN e h2)
  | _, _, .dicK h1 k h2 => .dicK (e _ _ h1 (fun _ z => by cases z)) k (rpAll_extN e h2)
  | _, _, .dicT h1 k h2 => .dicT (e _ _ h1 (fun _ z => by cases z)) k (rpAll_extN e h2)
theorem rpAll_extN {H H' : Hp} (e : ExtN H H') : ∀ {vs : List V} {ds : List Dt}, RpAll H vs ds → RpAll H' vs ds
  | _, _, .nil => .nil
  | _, _, .cons h t => .cons (rp_extN e h) (rpAll_extN e t)
end
/-- heard so far: the list at h of ("wrong", i) -/
structure Heard (H : Hp) (h : Addr) (is : List Int) : Prop where
  ex : ∃ vs, H h = some (.lst vs) ∧ vs.length = is.length ∧ ∀ (k : Nat) v, vs[k]? = some v → ∃ p i, v = .ref p ∧ p ≠ h ∧ is[k]? = some i ∧ H p = some (.tup [.str "wrong", .int i])
theorem Heard.ext {H H' : Hp} {h : Addr} {is : List Int} (x : Heard H h is) (e : ExtN H H') : Heard H' h is := by
  obtain ⟨vs, h1, h2, h3⟩ := x.ex
  refine ⟨vs, e _ _ h1 (fun _ z => by cases z), h2, fun k v hk => ?_⟩
  obtain ⟨p, i, rfl, n, hi, hp⟩ := h3 k v hk
  exact ⟨p, i, rfl, n, hi, e _ _ hp (fun _ z => by cases z)⟩
theorem Heard.data {H : Hp} {h : Addr} {is : List Int} (x : Heard H h is) : Rp H (.ref h) (.list (is.map fun i => .tuple [.str "wrong", .int i])) := by
  obtain ⟨vs, h1, h2, h3⟩ := x.ex
  refine .lst h1 ?_
  have : ∀ (vs : List V) (is : List Int), vs.length = is.length → (∀ (k : Nat) v, vs[k]? = some v → ∃ p i, v = .ref p ∧ p ≠ h ∧ is[k]? = some i ∧ H p = some (.tup [.str "wrong", .int i])) → RpAll H vs (is.map fun i => .tuple [.str "wrong", .int i]) := fun vs => by
    induction vs with
    | nil => intro is hl _; cases is with
      | nil => exact .nil
      | cons _ _ => simp at hl
    | cons v vs ih =>
      intro is hl hh
      cases is with
      | nil => simp at hl
      | cons i is =>
        obtain ⟨p, j, rfl, _, hj, hp⟩ := hh 0 v rfl
        simp at hj
        subst hj
        exact .cons (.tup hp (.cons (.str _) (.cons (.int _) .nil))) (ih is (by simpa using hl) fun k v hk => hh (k + 1) v (by simpa using hk))
  exact this vs is h2 h3
theorem Heard.more {H : Hp} {h p : Addr} {is : List Int} {i : Int} {vs : List V} (x : Heard H h is) (hv : H h = some (.lst vs)) (hp : H p = none) : Heard (upd (upd H p (.tup [.str "wrong", .int i])) h (.lst (vs ++ [.ref p]))) h (is ++ [i]) := by
  obtain ⟨vs', h1, h2, h3⟩ := x.ex
  rw [hv] at h1
  cases h1
  have ph : p ≠ h := fun e => by rw [e, hv] at hp; cases hp
  refine ⟨_, upd_same, by simp [h2], fun k v hk => ?_⟩
  by_cases c : k < vs.length
  · rw [List.getElem?_append_left c] at hk
    obtain ⟨q, j, rfl, n, hj, hq⟩ := h3 k v hk
    refine ⟨q, j, rfl, n, by rw [List.getElem?_append_left (by omega)]; exact hj, ?_⟩
    rw [upd_ne n, upd_ne (ne_of_none hq hp)]
    exact hq
  · rw [List.getElem?_append_right (by omega)] at hk
    have e0 : k - vs.length = 0 := by
      by_cases z : k - vs.length = 0
      · exact z
      · rw [List.getElem?_eq_none (by simp; omega)] at hk; cases hk
    rw [e0] at hk
    cases hk
    refine ⟨p, i, rfl, ph, by rw [List.getElem?_append_right (by omega), ← h2, e0]; rfl, ?_⟩
    rw [upd_ne ph, upd_same]
/-! ### the law -/
theorem fng_lk {CX : CXT} {k : Nat} {f : Addr} {name qual : Str} {params : Arguments} {body : List Stmt} {scope : Scope} {dV kV doc pm cdv ct oc : Value} {an od : Option Addr} {osl : Array (Option Value)} {N ps : List Str} {sp : Sp}
    (lk : K.lookup f = some ⟨oc, od, .func (PySem.W.fnOf name qual params body scope dV kV doc pm an cdv ct), osl⟩) (hcd : PySem.W.codeIn K cdv qual = true) (S : FnScope N ps scope) (len : ∀ vs H Q E, sp vs H Q E → vs.length = ps.length)
    (hbody : ∀ (A : Around) (outer : List Env) (s : Shared) (H : Hp) (vs : List V) (Q : VK) (E : XK), Rm k (A.deeper (envOfC qual scope s.heap.objs.size f cdv)) → sp vs H Q E →
      ∃ t, PSs (cxOf CX P w K mg base N qual scope f cdv A outer s H E) body t ∧ t { nx := fun _ H' => Q .non H', rt := Q } (L2.start N vs) H) : FnG P w K mg base CX (k + 1) f (PySem.W.fnOf name qual params body scope dV kV doc pm an cdv ct) ps sp := by
  refine ⟨len, fun A outer s H args us vs Q E hr e0 hb r hsp => ?_⟩
  have lv := len _ _ _ _ hsp
  have inK : K.In s.heap := e0.mod.kin.keeps fun b o e => (e0.bs b o e).1
  have nolim : s.heap.NoLimit := e0.mod.nolimit.keeps fun b o e => (e0.bs b o e).1
  have kinds : ∀ y ∈ ps.zip us, scope.names.lookup y.1 = some .local ∨ (scope.names.lookup y.1 = some .cell ∧ ((cellsFrom (s.heap.objs.size + 1) scope.names []).lookup y.1).isSome = true) := fun y hy => by
    rcases S.par y.1 (List.of_mem_zip (b := y.2) hy).1 with q | q
    · exact .inl q
    · exact .inr ⟨q, PySem.W.cellsFrom_some _ _ _ (.inl q)⟩
  refine codeAny_call_function hr.room.depth (inK _ _ lk) rfl S.co S.gen rfl (PySem.W.codeRec_of inK hcd) (hb _ _ _ _ ?_)
  refine wpAny_newFunctionEnv_cells S.kind kinds fun env he s1 x => ?_
  subst he
  refine ⟨nolim.keeps x.toInCall.keep, codeAny_func ?_⟩
  obtain ⟨t, ht, hq⟩ := hbody A outer s H vs Q E (hr.deeper _) hsp
  refine wpAny_mono (ht.run [] s1 (L2.start N vs) H _ (inv_start S hr.room.hd e0 lv r x) hq) (fun fl s' hs => ?_) fun e s' hs => hs
  cases fl with
  | ret u =>
    obtain ⟨v, σ', H', J, rv, q⟩ := hs
    exact ⟨v, H', J.os, J.bare, J.base, J.hok, rv, q⟩
  | next =>
    obtain ⟨σ', H', J, q⟩ := hs
    exact ⟨V.non, H', J.os, J.bare, J.base, J.hok, rfl, q⟩
  | brk =>
    obtain ⟨_, _, _, q⟩ := hs
    exact q.elim
  | cont =>
    obtain ⟨_, _, _, q⟩ := hs
    exact q.elim
def spLaw (K : PySem.W.Frag) (tb : Addr) : Sp := fun vs H Q _ => ∃ (a : Addr) (ns : List Int), vs = [.ref a] ∧ SqL K H a (ns.map V.int) ∧ ns.length ≤ 63 ∧ H tb = some (.tbl #[]) ∧ ∀ H', Q (.bl true) H'
abbrev tabs (tb : Addr) : List (Addr × Str) := [(tb, (("law" : Str) ++ (".<locals>." : Str)) ++ ("<lambda>" : Str))]
abbrev lawN : List Str := ["script", "bag", "turn", "records", "text", "shown", "told", "ahead", "record", "again", "some", "due", "at", "odd", "bad", "heard"]
theorem tabs0 {tb : Addr} {H : Hp} (h : H tb = some (.tbl #[])) : Tabs (tabs tb) H := fun p hp => by
  obtain rfl : p = (tb, (("law" : Str) ++ (".<locals>." : Str)) ++ ("<lambda>" : Str)) := by simpa using hp
  exact TabS.nil h
theorem told_shn' {x : Str} (hw : ∀ c ∈ tl x, c < 127) (hl : x.length ≤ 10) : Shn (.list [.tuple [.str x, .int 0], .tuple [.str x, .int 0], .tuple [.str x, .int 1]]) := by
  refine shn_list ⟨⟨hw, ⟨by omega, by omega⟩, trivial⟩, ⟨hw, ⟨by omega, by omega⟩, trivial⟩, ⟨hw, ⟨by omega, by omega⟩, trivial⟩, trivial⟩ ?_ ?_
  · simp only [costAll, cost]
    unfold LIM
    omega
  · simp [PyData.depth, PyData.depthAll]
theorem told_shn : Shn (.list [.tuple [.str "wrong", .int 0], .tuple [.str "wrong", .int 0], .tuple [.str "wrong", .int 1]]) := told_shn' (by decide +kernel) (by decide +kernel)
theorem alike_told : WpF m__law_alike ([PyData.list [.tuple [.str "wrong", .int 0], .tuple [.str "wrong", .int 0], .tuple [.str "wrong", .int 1]], PyData.list [.tuple [.str "wrong", .int 0], .tuple [.str "wrong", .int 0], .tuple [.str "wrong", .int 1]]].map .imm) fun r _ => r = .val (.bool true) :=
  (alike_ok told_shn).mono fun r out h => h.1
theorem bag_bag {ns : List Int} (h : ns.length ≤ 63) : Bag (bag0 ns) := ⟨0, 1234567891, 0, _, rfl, by rw [List.length_map]; omega, fun c hc => by
  obtain ⟨n, _, rfl⟩ := List.mem_map.mp hc
  exact ⟨_, rfl⟩⟩
section
variable {X : Cx} {C S fI : Addr} {g cc tb : Addr}
/-- _law_refused(lambda: ..) told -/
theorem lam_told {t : XK → TE} {σ : L2.St} {H : Hp} {Q : VK} (hT : Tabs (tabs tb) H) (h : ∀ (H1 : Hp) (E : XK), ExtN H H1 → Tabs (tabs tb) H1 → (∀ (dd : Addr) (i : Int) (H2 : Hp), Ex H1 H2 → H2 dd = some (.xd [("place", .int i)]) → (∀ p, H2 p = none → Q (.ref p) (upd H2 p (.tup [.str "wrong", .int i]))) → E (.ref C) (some dd) H2) → ∀ Q0 : VK, t E σ H1 Q0) : tLam (tabs tb) (TTw C) t σ H Q :=
  ⟨hT, fun H1 e1 T1 Q0 => h H1 _ e1 T1 (fun dd i H2 _ ed q => ⟨rfl, dd, i, rfl, ed, q⟩) Q0⟩
end
def spO (C : Addr) : Sp := fun vs H Q E => spOddX C vs H Q E ∨ spEmp vs H Q E
def wr (i : Int) : TE := tTup (tCons (tC (.str "wrong")) (tCons (tC (.int i)) tNil))
def tL1 (C tb : Addr) : TE := tLam (tabs tb) (TTw C) fun E => tCallS (spO C) (WE fun cls d _ H => E cls d H) (tCons (tVar 13) tNil)
def tL2 (C tb : Addr) : TE := tLam (tabs tb) (TTw C) fun E => tCallS (spWithX C) (WE fun cls d _ H => E cls d H) (tCons (tVar 13) (tCons (tVar 14) tNil))
def tL3 (C tb : Addr) : TE := tLam (tabs tb) (TTw C) fun E => tCallS (spWithX C) (WE fun cls d _ H => E cls d H) (tCons (tC (.str "")) (tCons (tVar 14) tNil))
def tAp (K : PySem.W.Frag) (t : TE) : TS := tDrop (tBM K "list" rAppend (tVar 15) (tCons t tNil))
def tTail (K : PySem.W.Frag) (C tb : Addr) : TS := tSeq (tAsg (tLst (tCons (tL1 C tb) tNil)) (gName 15)) (tSeq (tAp K (tL2 C tb)) (tSeq (tAp K (tL3 C tb))
  (tRet (tCall (spD 2 m__law_alike) [] E0 (tCons (tVar 15) (tCons (tLst (tCons (wr 0) (tCons (wr 0) (tCons (wr 1) tNil)))) tNil))))))
/-- told, and what it leaves -/
theorem l1_run {C tb : Addr} {σ : L2.St} {H : Hp} {Q : VK} {v : V} {d : Dt} (hT : Tabs (tabs tb) H) (hs : σ[13]? = some (some v)) (hv : Rp H v d) (hd : Odd d)
    (q : ∀ (p : Addr) (H2 : Hp), ExtN H H2 → Tabs (tabs tb) H2 → H2 p = none → Q (.ref p) (upd H2 p (.tup [.str "wrong", .int 0]))) : tL1 C tb σ H Q := by
  refine lam_told hT fun H1 E e1 T1 hE Q0 => ⟨v, hs, .inl ⟨v, d, rfl, rp_extN e1 hv, odd_no hd, fun dd H2 e2 ed => ?_⟩⟩
  exact hE dd 0 H2 e2 ed fun p hp => q p H2 (e1.trans (.of e2)) (T1.ext e2) hp
theorem l2_run {C tb : Addr} {σ : L2.St} {H : Hp} {Q : VK} {v u : V} {d e : Dt} (hT : Tabs (tabs tb) H) (hs : σ[13]? = some (some v)) (hv : Rp H v d) (hd : Odd d) (hs2 : σ[14]? = some (some u)) (hu : Rp H u e)
    (q : ∀ (p : Addr) (H2 : Hp), ExtN H H2 → Tabs (tabs tb) H2 → H2 p = none → Q (.ref p) (upd H2 p (.tup [.str "wrong", .int 0]))) : tL2 C tb σ H Q := by
  refine lam_told hT fun H1 E e1 T1 hE Q0 => ⟨v, hs, u, hs2, v, u, d, e, rfl, rp_extN e1 hv, rp_extN e1 hu, .inl ⟨odd_no hd, fun dd H2 e2 ed => ?_⟩⟩
  exact hE dd 0 H2 e2 ed fun p hp => q p H2 (e1.trans (.of e2)) (T1.ext e2) hp
theorem l3_run {C tb : Addr} {σ : L2.St} {H : Hp} {Q : VK} {u : V} {e : Dt} (hT : Tabs (tabs tb) H) (hs2 : σ[14]? = some (some u)) (hu : Rp H u e) (he : Bad e)
    (q : ∀ (p : Addr) (H2 : Hp), ExtN H H2 → Tabs (tabs tb) H2 → H2 p = none → Q (.ref p) (upd H2 p (.tup [.str "wrong", .int 1]))) : tL3 C tb σ H Q := by
  refine lam_told hT fun H1 E e1 T1 hE Q0 => ⟨u, hs2, .str "", u, .str "", e, rfl, .str _, rp_extN e1 hu, .inr ⟨rfl, he, fun dd H2 e2 ed => ?_⟩⟩
  exact hE dd 1 H2 e2 ed fun p hp => q p H2 (e1.trans (.of e2)) (T1.ext e2) hp
theorem tabs_lst {T : List (Addr × Str)} {H : Hp} {h : Addr} {vs : List V} {o : HO} (t : Tabs T H) (hh : H h = some (.lst vs)) : Tabs T (upd H h o) := fun p hp => by
  obtain ⟨ps, h1, h2, h3⟩ := t p hp
  have n1 : p.1 ≠ h := fun e => by rw [e, hh] at h1; cases h1
  refine ⟨ps, by rw [upd_ne n1]; exact h1, h2, fun pos cv hc => ?_⟩
  obtain ⟨c, e1, e2⟩ := h3 pos cv hc
  have n2 : c ≠ h := fun e => by
    rw [e, hh] at e2
    have z : HO.lst vs = HO.ext _ := Option.some.inj e2
    cases z
  exact ⟨c, e1, by rw [upd_ne n2]; exact e2⟩
/-- what holds between two of the law's last statements -/
structure Mid (tb : Addr) (H0 H : Hp) (h : Addr) (is : List Int) : Prop where
  ex : ExtN H0 H
  tab : Tabs (tabs tb) H
  no : H0 h = none
  heard : Heard H h is
theorem Mid.step {tb h p : Addr} {H0 A B : Hp} {is : List Int} {i : Int} {vs : List V} (m : Mid tb H0 A h is) (e : ExtN A B) (t : Tabs (tabs tb) B) (hp : B p = none) (hv : B h = some (.lst vs)) :
    Mid tb H0 (upd (upd B p (.tup [.str "wrong", .int i])) h (.lst (vs ++ [.ref p]))) h (is ++ [i]) := by
  have ph : p ≠ h := fun z => by rw [z, hv] at hp; cases hp
  refine ⟨fun b o hb n => ?_, tabs_lst (t.ext (Ex.new hp)) (by rw [upd_ne (Ne.symm ph)]; exact hv), m.no, (m.heard.ext e).more hv hp⟩
  have hB := e b o (m.ex b o hb n) n
  rw [upd_ne (ne_of_none hb m.no), upd_ne (ne_of_none hB hp)]
  exact hB
theorem tail_run {C tb : Addr} {D : Ends} {σ : L2.St} {H : Hp} {v u : V} {d e : Dt} (hT : Tabs (tabs tb) H) (hs : σ[13]? = some (some v)) (hv : Rp H v d) (hd : Odd d) (hs2 : σ[14]? = some (some u)) (hu : Rp H u e) (he : Bad e) (hl : 15 < σ.length)
    (q : ∀ H', D.rt (.bl true) H') : tTail K C tb D σ H := by
  unfold tTail
  refine l1_run hT hs hv hd fun p H2 e2 T2 hp => ?_
  refine ⟨by show 1 ≤ sizeLine; decide, fun h hh => ?_⟩
  have ph : p ≠ h := fun z => by rw [z, upd_same] at hh; cases hh
  have hh2 : H2 h = none := by rw [upd_ne (Ne.symm ph)] at hh; exact hh
  have hv := rp_extN e2 hv
  have hu := rp_extN e2 hu
  have m1 : Mid tb H2 (upd (upd H2 p (.tup [.str "wrong", .int 0])) h (.lst [.ref p])) h [0] := by
    refine ⟨(ExtN.of (Ex.new hp)).trans (.of (Ex.new hh)), (T2.ext (Ex.new hp)).ext (Ex.new hh), hh2, ⟨[.ref p], upd_same, rfl, fun k w hk => ?_⟩⟩
    match k with
    | 0 => cases hk; exact ⟨p, 0, rfl, ph, rfl, by rw [upd_ne ph, upd_same]⟩
    | k + 1 => simp at hk
  generalize (upd (upd H2 p (.tup [.str "wrong", .int 0])) h (.lst [.ref p])) = A at m1
  have g13 : (σ.set 15 (some (V.ref h)))[13]? = some (some v) := by rw [List.getElem?_set_ne (by decide)]; exact hs
  have g14 : (σ.set 15 (some (V.ref h)))[14]? = some (some u) := by rw [List.getElem?_set_ne (by decide)]; exact hs2
  have g15 : (σ.set 15 (some (V.ref h)))[15]? = some (some (V.ref h)) := List.getElem?_set_self hl
  show tSeq (tAp K (tL2 C tb)) _ D (σ.set 15 (some (V.ref h))) A
  generalize σ.set 15 (some (V.ref h)) = τ at g13 g14 g15
  have tyh : ∀ {B : Hp} {is : List Int}, Heard B h is → tyV K "list" (.ref h) B := fun hb => by
    obtain ⟨vs, k, _⟩ := hb.ex
    exact .inl ⟨rfl, vs, SqL.of k⟩
  -- the second one
  refine ⟨_, g15, tyh m1.heard, l2_run m1.tab g13 (rp_extN m1.ex hv) hd g14 (rp_extN m1.ex hu) fun p2 B eB TB hp2 => ?_⟩
  obtain ⟨vs, kB, lB, _⟩ := (m1.heard.ext eB).ex
  have n2 : h ≠ p2 := fun z => by rw [← z, kB] at hp2; cases hp2
  refine ⟨h, vs, .ref p2, rfl, rfl, by rw [upd_ne n2]; exact kB, by rw [lB, sizeLine_eq]; simp, ?_⟩
  have m2 := m1.step (i := 0) eB TB hp2 kB
  generalize (upd (upd B p2 (.tup [.str "wrong", .int 0])) h (.lst (vs ++ [.ref p2]))) = A2 at m2
  show tSeq (tAp K (tL3 C tb)) _ D τ A2
  -- the third one
  refine ⟨_, g15, tyh m2.heard, l3_run m2.tab g14 (rp_extN m2.ex hu) he fun p3 B2 eB2 TB2 hp3 => ?_⟩
  obtain ⟨vs2, kB2, lB2, _⟩ := (m2.heard.ext eB2).ex
  have n3 : h ≠ p3 := fun z => by rw [← z, kB2] at hp3; cases hp3
  refine ⟨h, vs2, .ref p3, rfl, rfl, by rw [upd_ne n3]; exact kB2, by rw [lB2, sizeLine_eq]; simp, ?_⟩
  have m3 := m2.step (i := 1) eB2 TB2 hp3 kB2
  generalize (upd (upd B2 p3 (.tup [.str "wrong", .int 1])) h (.lst (vs2 ++ [.ref p3]))) = A3 at m3
  -- what is due
  refine ⟨_, g15, ?_⟩
  refine ⟨by show 2 ≤ sizeLine; decide, fun q1 hq1 => ⟨by show 2 ≤ sizeLine; decide, fun q2 hq2 => ⟨by show 2 ≤ sizeLine; decide, fun q3 hq3 => ⟨by show 3 ≤ sizeLine; decide, fun q4 hq4 => ?_⟩⟩⟩⟩
  have x1 := Ex.new (o := .tup [.str "wrong", .int 0]) hq1
  have x2 := Ex.new (o := .tup [.str "wrong", .int 0]) hq2
  have x3 := Ex.new (o := .tup [.str "wrong", .int 1]) hq3
  have x4 := Ex.new (o := .lst [.ref q1, .ref q2, .ref q3]) hq4
  refine spD_of (E := E0) (ds := [PyData.list [.tuple [.str "wrong", .int 0], .tuple [.str "wrong", .int 0], .tuple [.str "wrong", .int 1]], PyData.list [.tuple [.str "wrong", .int 0], .tuple [.str "wrong", .int 0], .tuple [.str "wrong", .int 1]]]) rfl alike_told ?_ fun v' H' _ r => by cases r; exact q H'
  have w : ∀ {G : Hp} {q : Addr} {i : Int}, G q = some (.tup [.str "wrong", .int i]) → Rp G (.ref q) (.tuple [.str "wrong", .int i]) := fun hq => .tup hq (.cons (.str _) (.cons (.int _) .nil))
  refine .cons ?_ (.cons (.lst upd_same (.cons (w (x4 _ _ (x3 _ _ (x2 _ _ upd_same)))) (.cons (w (x4 _ _ (x3 _ _ upd_same))) (.cons (w (x4 _ _ upd_same)) .nil)))) .nil)
  exact Rp.ex (((x1.trans x2).trans x3).trans x4) _ m3.heard.data
end
end W
end
section
set_option maxRecDepth 100000
set_option maxHeartbeats 400000
namespace W
open PySem PySem.Spec PyProof.Rows L2 DL TL T64 LamX
theorem mem_tabs {tb : Addr} {q : Str} (h : q = ("law" : Str) ++ (".<locals>." : Str)) : (tb, q ++ ("<lambda>" : Str)) ∈ tabs tb := by
  subst h
  exact List.mem_singleton.mpr rfl
theorem tabs_eq {tb : Addr} {q : Str} (h : q = ("law" : Str) ++ (".<locals>." : Str)) : ∀ p ∈ tabs tb, p.1 = tb → p.2 = q ++ ("<lambda>" : Str) := fun p hp _ => by
  subst h
  rw [List.mem_singleton.mp hp]
section
variable {P : Program} {w : World} {K : PySem.W.Frag} {mg : Str → Option Value} {base : Heap}
/-- the law's last statements as rules -/
theorem tail_pss {fa g cc tb fO fW : Addr} {C S fI : Addr} {ocR kVR docR pmR cdR ctR : Value} {anR odR : Option Addr} {oslR : Array (Option Value)} {fdO fdW : FuncData}
    (X : TxtX K mg C S fI) (TB : TabB base mg cc tb)
    (FO : FnOk P w K mg base (L2.CX P w) 3 fO fdO ["text"] (spO C)) (mO : mg "opened" = some (.ref fO)) (kO : PySem.W.keepIn K (.ref fO) = true) (bO : Binds K fdO ["text"] [])
    (FW : FnOk P w K mg base (L2.CX P w) 4 fW fdW ["text", "record"] (spWithX C)) (mW : mg "with_record" = some (.ref fW)) (kW : PySem.W.keepIn K (.ref fW) = true) (bW : Binds K fdW ["text", "record"] [])
    (lkR : K.lookup g = some ⟨ocR, odR, .func (PySem.W.fnOf "_law_refused" "_law_refused" (defArgs s__law_refused) (defBody s__law_refused) (defScope s__law_refused) .none kVR docR pmR anR cdR ctR), oslR⟩) (hcR : PySem.W.codeIn K cdR "_law_refused" = true) (mR : mg "_law_refused" = some (.ref g)) (kR : PySem.W.keepIn K (.ref g) = true)
    (bR : Binds K (PySem.W.fnOf "_law_refused" "_law_refused" (defArgs s__law_refused) (defBody s__law_refused) (defScope s__law_refused) .none kVR docR pmR anR cdR ctR) ["act"] [])
    (CA : Cal P w K mg base "_law_alike" 1 2 m__law_alike) {A : Around} {outer : List Env} {s : Shared} {H : Hp} {E : XK} (hr : Rm 6 (A.deeper (envOfC "law" (defScope s_law) s.heap.objs.size fa (.ref cc)))) :
    ∃ t, PSs (cxOf CX0 P w K mg base lawN "law" (defScope s_law) fa (.ref cc) A outer s H E).nox ((defBody s_law).drop 4) t ∧ t = tTail K C tb := by
  obtain ⟨fA, fdA, psA, FA, mA, kA, bA⟩ := CA
  refine ⟨_, pss_cons (ps_set (i := 15) nd_law rfl (.inl rfl) (pe_lst (pa_cons (pe_lamcall (k := 4) (T := tabs tb) (TT := TTw C) (t := fun E => tCallS (spO C) (WE fun cls d _ H => E cls d H) (tCons (tVar 13) tNil))
        rfl mR kR lkR hcR bR sc__law_refused rfl (.inl rfl) (refused_gives X) TB rfl (mem_tabs (by rfl)) (tabs_eq (by rfl)) hr.room (lamS_by (by kernel_rfl)) rfl (fun _ _ _ _ _ => rfl)
        (fun A outer s H E f c' hr' => pe_callS FO (hr'.mono (by decide)) rfl mO kO bO (fun σ => passAt (takes_of rfl rfl rfl rfl) σ) (pa_cons (pe_var (i := 13) rfl (.inr (.inr rfl))) pa_nil))) pa_nil))) (pss_cons (ps_expr (pe_bm PySem.F.plainAttrs_list PySem.F.slot_list_append PySem.F.type_list_append mt_append (pe_var (i := 15) rfl (.inl rfl)) (pa_cons (pe_lamcall (k := 4) (T := tabs tb) (TT := TTw C) (t := fun E => tCallS (spWithX C) (WE fun cls d _ H => E cls d H) (tCons (tVar 13) (tCons (tVar 14) tNil)))
        rfl mR kR lkR hcR bR sc__law_refused rfl (.inl rfl) (refused_gives X) TB rfl (mem_tabs (by rfl)) (tabs_eq (by rfl)) hr.room (lamS_by (by kernel_rfl)) rfl (fun _ _ _ _ _ => rfl)
        (fun A outer s H E f c' hr' => pe_callS FW hr' rfl mW kW bW (fun σ => passAt (takes_of rfl rfl rfl rfl) σ) (pa_cons (pe_var (i := 13) rfl (.inr (.inr rfl))) (pa_cons (pe_var (i := 14) rfl (.inr (.inr rfl))) pa_nil)))) pa_nil))) (pss_cons (ps_expr (pe_bm PySem.F.plainAttrs_list PySem.F.slot_list_append PySem.F.type_list_append mt_append (pe_var (i := 15) rfl (.inl rfl)) (pa_cons (pe_lamcall (k := 4) (T := tabs tb) (TT := TTw C) (t := fun E => tCallS (spWithX C) (WE fun cls d _ H => E cls d H) (tCons (tC (.str "")) (tCons (tVar 14) tNil)))
        rfl mR kR lkR hcR bR sc__law_refused rfl (.inl rfl) (refused_gives X) TB rfl (mem_tabs (by rfl)) (tabs_eq (by rfl)) hr.room (lamS_by (by kernel_rfl)) rfl (fun _ _ _ _ _ => rfl)
        (fun A outer s H E f c' hr' => pe_callS FW hr' rfl mW kW bW (fun σ => passAt (takes_of rfl rfl rfl rfl) σ) (pa_cons pe_str (pa_cons (pe_var (i := 14) rfl (.inr (.inr rfl))) pa_nil)))) pa_nil))) (pss_one (ps_ret (pe_callG FA (hr.mono (by decide)) rfl mA kA bA pass0 (pa_cons (pe_var (i := 15) rfl (.inl rfl)) (pa_cons (pe_lst (pa_cons (pe_tup (pa_cons pe_str (pa_cons pe_int pa_nil))) (pa_cons (pe_tup (pa_cons pe_str (pa_cons pe_int pa_nil))) (pa_cons (pe_tup (pa_cons pe_str (pa_cons pe_int pa_nil))) pa_nil)))) pa_nil))))))), ?_⟩
  rfl
theorem ok_law {fa g cc tb fB fO fW : Addr} {C S fI : Addr} {oc kV doc pm ct ocR kVR docR pmR cdR ctR : Value} {an od anR odR : Option Addr} {osl oslR : Array (Option Value)} {fdB fdO fdW : FuncData}
    (X : TxtX K mg C S fI) (T : Nms mg)
    (lk : K.lookup fa = some ⟨oc, od, .func (PySem.W.fnOf "law" "law" (defArgs s_law) (defBody s_law) (defScope s_law) .none kV doc pm an (.ref cc) ct), osl⟩) (hcd : PySem.W.codeIn K (.ref cc) "law" = true) (TB : TabB base mg cc tb)
    (FB : FnOk P w K mg base CX0 1 fB fdB ["script"] (spBag K)) (mB : mg "_law_bag" = some (.ref fB)) (kB : PySem.W.keepIn K (.ref fB) = true) (bB : Binds K fdB ["script"] [])
    (FO : FnOk P w K mg base (L2.CX P w) 3 fO fdO ["text"] (spO C)) (mO : mg "opened" = some (.ref fO)) (kO : PySem.W.keepIn K (.ref fO) = true) (bO : Binds K fdO ["text"] [])
    (FW : FnOk P w K mg base (L2.CX P w) 4 fW fdW ["text", "record"] (spWithX C)) (mW : mg "with_record" = some (.ref fW)) (kW : PySem.W.keepIn K (.ref fW) = true) (bW : Binds K fdW ["text", "record"] [])
    (lkR : K.lookup g = some ⟨ocR, odR, .func (PySem.W.fnOf "_law_refused" "_law_refused" (defArgs s__law_refused) (defBody s__law_refused) (defScope s__law_refused) .none kVR docR pmR anR cdR ctR), oslR⟩) (hcR : PySem.W.codeIn K cdR "_law_refused" = true) (mR : mg "_law_refused" = some (.ref g)) (kR : PySem.W.keepIn K (.ref g) = true)
    (bR : Binds K (PySem.W.fnOf "_law_refused" "_law_refused" (defArgs s__law_refused) (defBody s__law_refused) (defScope s__law_refused) .none kVR docR pmR anR cdR ctR) ["act"] [])
    (C__law_take : Cal P w K mg base "_law_take" 1 2 m__law_take) (C__law_alike : Cal P w K mg base "_law_alike" 1 2 m__law_alike) (C_opened : Cal P w K mg base "opened" 3 1 m_opened) (C__law_journal : Cal P w K mg base "_law_journal" 2 1 m__law_journal) (C_with_record : Cal P w K mg base "with_record" 4 2 m_with_record) (C__law_opened : Cal P w K mg base "_law_opened" 3 1 m__law_opened) (C__law_bent_text : Cal P w K mg base "_law_bent_text" 3 2 m__law_bent_text) (C__law_sum_behind : Cal P w K mg base "_law_sum_behind" 1 2 m__law_sum_behind) (C_sum_behind : Cal P w K mg base "sum_behind" 1 2 m_sum_behind) (C__law_record : Cal P w K mg base "_law_record" 3 1 m__law_record) (C_journal_of : Cal P w K mg base "journal_of" 2 1 m_journal_of) (C__law_some : Cal P w K mg base "_law_some" 2 2 m__law_some) :
    FnG P w K mg base CX0 7 fa (PySem.W.fnOf "law" "law" (defArgs s_law) (defBody s_law) (defScope s_law) .none kV doc pm an (.ref cc) ct) ["script"] (spLaw K tb) := by
  refine fng_lk lk hcd sc_law (fun vs H Q E h => ?_) (fun A outer s H vs Q E hr h => ?_)
  · obtain ⟨a, ns, rfl, _⟩ := h; rfl
  obtain ⟨t1, d1⟩ := dp_law_1 (f := fa) (E := E) (by decide : 4 ≤ 6) T C__law_take C__law_alike C_opened C__law_journal C_with_record C__law_opened C__law_bent_text C__law_sum_behind C_sum_behind C__law_record C_journal_of C__law_some (.ref cc) A outer s H hr
  obtain ⟨t2, d2⟩ := dp_law_2 (f := fa) (E := E) (by decide : 4 ≤ 6) T C__law_some (.ref cc) A outer s H hr
  obtain ⟨t3, d3⟩ := dp_law_3 (f := fa) (E := E) (by decide : 4 ≤ 6) T C__law_some (.ref cc) A outer s H hr
  obtain ⟨tt, dt, et⟩ := tail_pss (fa := fa) (E := E) X TB FO mO kO bO FW mW kW bW lkR hcR mR kR bR C__law_alike (A := A) (outer := outer) (s := s) (H := H) hr
  subst et
  refine ⟨_, PSs.nox (pss_cons (ps_set (i := 1) nd_law rfl (.inr rfl) (pe_call FB (hr.room.mono (by decide)) rfl mB kB bB .nil pass0 (pa_cons (pe_var (i := 0) rfl (.inl rfl)) pa_nil)))
    (pss_cons d1.ps (pss_cons d2.ps (pss_cons d3.ps dt)))), ?_⟩
  obtain ⟨a, ns, rfl, hs, hl, htb, q⟩ := h
  refine ⟨_, rfl, a, ns, rfl, hs, hl, fun p pq H1 e1 np nq ne h1 h2 => ?_⟩
  obtain ⟨ρ', odd, bad, er, hodd, hbad, r13, r14, r15⟩ := law_part (bag_bag hl)
  refine sim_seq d1.sim (sim_seq d2.sim d3.sim) _ _ .nx ρ' _ _ H1 { nx := tTail K C tb { nx := fun _ H' => Q .non H', rt := Q }, rt := Q } er (rs_bag (N := 14) (v := .ref a) e1 np nq ne h1 h2) fun σ2 G2 H2 rs2 x2 => ?_
  have exH : Ex H H2 := fun b o hb => rs2.stp.fr b o hb fun ⟨i, ⟨sv, k1, k2⟩, _⟩ => by
    have k1 : ([SV.no] : En)[i]? = some sv := k1
    match i with
    | 0 => cases k1; cases k2
    | i + 1 => simp at k1
  obtain ⟨vo, s13, ro⟩ := rs2.rel.slot 13 _ r13
  obtain ⟨vb, s14, rb⟩ := rs2.rel.slot 14 _ r14
  have l15 : 15 < σ2.length := by
    rw [← rs2.rel.len]
    exact (List.getElem?_eq_some_iff.mp r15).1
  exact tail_run ((tabs0 htb).ext exH) s13 (Rp.ex rs2.rel.ex _ ro) hodd s14 (Rp.ex rs2.rel.ex _ rb) hbad l15 fun H' => q H'
end
end W
end
section
set_option maxRecDepth 100000
set_option maxHeartbeats 4000000
namespace W
open PySem PySem.Spec PyProof.Rows L2 DL TL T64 LamX
theorem exm_own {K : PySem.W.Frag} {S : Addr} (h1 : PySem.W.subIn K (.ref S) (.type "BaseException") = some true) (h2 : PySem.W.isClsIn K S = true) (h3 : PySem.W.typeIn K (.ref S) = some (.type "type")) (h4 : PySem.W.subIn K (.ref S) (.ref S) = some true) : PySem.W.exmOne K (.ref S) (.ref S) = some true := by
  have h2 : (PySem.W.clsIn K S).isSome = true := h2
  unfold PySem.W.exmOne
  simp [PySem.W.kitCls, h1, h2, h3, h4]
theorem all_mk {l : PySem.W.OpenLaw} {w : World} {K : PySem.W.Frag} {h : Heap} {mg : Str → Option Value} {fa : Addr} (X : K.In h) (G : h.Ns mainGlobals mg) (hfa : mg "law" = some (.ref fa)) (own : OwnTab K fa h)

    {f7 : Addr} {od7 an7 : Option Addr} {sl7 : Array (Option Value)} {oc7 kV7 dc7 pm7 cd7 ct7 : Value}
    {f8 : Addr} {od8 an8 : Option Addr} {sl8 : Array (Option Value)} {oc8 kV8 dc8 pm8 cd8 ct8 : Value}
    {f15 : Addr} {od15 an15 : Option Addr} {sl15 : Array (Option Value)} {oc15 kV15 dc15 pm15 cd15 ct15 : Value}
    {f18 : Addr} {od18 an18 : Option Addr} {sl18 : Array (Option Value)} {oc18 kV18 dc18 pm18 cd18 ct18 : Value}
    {f20 : Addr} {od20 an20 : Option Addr} {sl20 : Array (Option Value)} {oc20 kV20 dc20 pm20 cd20 ct20 : Value}
    {f22 : Addr} {od22 an22 : Option Addr} {sl22 : Array (Option Value)} {oc22 kV22 dc22 pm22 cd22 ct22 : Value}
    {f9 : Addr} {od9 an9 : Option Addr} {sl9 : Array (Option Value)} {oc9 kV9 dc9 pm9 cd9 ct9 : Value}
    {f10 : Addr} {od10 an10 : Option Addr} {sl10 : Array (Option Value)} {oc10 kV10 dc10 pm10 cd10 ct10 : Value}
    {f16 : Addr} {od16 an16 : Option Addr} {sl16 : Array (Option Value)} {oc16 kV16 dc16 pm16 cd16 ct16 : Value}
    {f19 : Addr} {od19 an19 : Option Addr} {sl19 : Array (Option Value)} {oc19 kV19 dc19 pm19 cd19 ct19 : Value}
    {f11 : Addr} {od11 an11 : Option Addr} {sl11 : Array (Option Value)} {oc11 kV11 dc11 pm11 cd11 ct11 : Value}
    {f17 : Addr} {od17 an17 : Option Addr} {sl17 : Array (Option Value)} {oc17 kV17 dc17 pm17 cd17 ct17 : Value}
    {f21 : Addr} {od21 an21 : Option Addr} {sl21 : Array (Option Value)} {oc21 kV21 dc21 pm21 cd21 ct21 : Value}
    {f23 : Addr} {od23 an23 : Option Addr} {sl23 : Array (Option Value)} {oc23 kV23 dc23 pm23 cd23 ct23 : Value}
    {f12 : Addr} {od12 an12 : Option Addr} {sl12 : Array (Option Value)} {oc12 kV12 dc12 pm12 cd12 ct12 : Value}
    {f14 : Addr} {od14 an14 : Option Addr} {sl14 : Array (Option Value)} {oc14 kV14 dc14 pm14 cd14 ct14 : Value}
    {f24 : Addr} {od24 an24 : Option Addr} {sl24 : Array (Option Value)} {oc24 kV24 dc24 pm24 cd24 ct24 : Value}
    {f25 : Addr} {od25 an25 : Option Addr} {sl25 : Array (Option Value)} {oc25 kV25 dc25 pm25 ct25 : Value}
    {cc tb : Addr} {eT : Value} {ddT : Option Addr} {vsT : Array Value} {slT : Array (Option Value)} {C S fI : Addr} {nm q : Str} {N : Addr} {bs : List Value} {sn : List Str} {sub : List Value} {ab : Bool} {col : Option Bool} {dd : Option Addr} {m0 m1 m2 m3 m5 : Option Value} {odI anI : Option Addr} {slI : Array (Option Value)} {ocI kVI dcI pmI cdI ctI : Value}
    {t_LAST_SIGN : Tok}
    {t_FIRST_SIGN : Tok}
    {t_MODULUS : Tok}
    (a7 : PySem.W.nsIn K mainGlobals "is_record" = some (some (.ref f7))) (l7 : K.lookup f7 = some ⟨oc7, od7, .func (PySem.W.fnOf "is_record" "is_record" (defArgs s_is_record) (defBody s_is_record) (defScope s_is_record) .none kV7 dc7 pm7 an7 cd7 ct7), sl7⟩) (c7 : PySem.W.codeIn K cd7 "is_record" = true) (k7 : PySem.W.keepIn K (.ref f7) = true)
    (a8 : PySem.W.nsIn K mainGlobals "sum_behind" = some (some (.ref f8))) (l8 : K.lookup f8 = some ⟨oc8, od8, .func (PySem.W.fnOf "sum_behind" "sum_behind" (defArgs s_sum_behind) (defBody s_sum_behind) (defScope s_sum_behind) .none kV8 dc8 pm8 an8 cd8 ct8), sl8⟩) (c8 : PySem.W.codeIn K cd8 "sum_behind" = true) (k8 : PySem.W.keepIn K (.ref f8) = true)
    (a15 : PySem.W.nsIn K mainGlobals "_law_take" = some (some (.ref f15))) (l15 : K.lookup f15 = some ⟨oc15, od15, .func (PySem.W.fnOf "_law_take" "_law_take" (defArgs s__law_take) (defBody s__law_take) (defScope s__law_take) .none kV15 dc15 pm15 an15 cd15 ct15), sl15⟩) (c15 : PySem.W.codeIn K cd15 "_law_take" = true) (k15 : PySem.W.keepIn K (.ref f15) = true)
    (a18 : PySem.W.nsIn K mainGlobals "_law_sum_behind" = some (some (.ref f18))) (l18 : K.lookup f18 = some ⟨oc18, od18, .func (PySem.W.fnOf "_law_sum_behind" "_law_sum_behind" (defArgs s__law_sum_behind) (defBody s__law_sum_behind) (defScope s__law_sum_behind) .none kV18 dc18 pm18 an18 cd18 ct18), sl18⟩) (c18 : PySem.W.codeIn K cd18 "_law_sum_behind" = true) (k18 : PySem.W.keepIn K (.ref f18) = true)
    (a20 : PySem.W.nsIn K mainGlobals "_law_alike" = some (some (.ref f20))) (l20 : K.lookup f20 = some ⟨oc20, od20, .func (PySem.W.fnOf "_law_alike" "_law_alike" (defArgs s__law_alike) (defBody s__law_alike) (defScope s__law_alike) .none kV20 dc20 pm20 an20 cd20 ct20), sl20⟩) (c20 : PySem.W.codeIn K cd20 "_law_alike" = true) (k20 : PySem.W.keepIn K (.ref f20) = true)
    (a22 : PySem.W.nsIn K mainGlobals "_law_is_record" = some (some (.ref f22))) (l22 : K.lookup f22 = some ⟨oc22, od22, .func (PySem.W.fnOf "_law_is_record" "_law_is_record" (defArgs s__law_is_record) (defBody s__law_is_record) (defScope s__law_is_record) .none kV22 dc22 pm22 an22 cd22 ct22), sl22⟩) (c22 : PySem.W.codeIn K cd22 "_law_is_record" = true) (k22 : PySem.W.keepIn K (.ref f22) = true)
    (a9 : PySem.W.nsIn K mainGlobals "journal_of" = some (some (.ref f9))) (l9 : K.lookup f9 = some ⟨oc9, od9, .func (PySem.W.fnOf "journal_of" "journal_of" (defArgs s_journal_of) (defBody s_journal_of) (defScope s_journal_of) .none kV9 dc9 pm9 an9 cd9 ct9), sl9⟩) (c9 : PySem.W.codeIn K cd9 "journal_of" = true) (k9 : PySem.W.keepIn K (.ref f9) = true)
    (a10 : PySem.W.nsIn K mainGlobals "record_in" = some (some (.ref f10))) (l10 : K.lookup f10 = some ⟨oc10, od10, .func (PySem.W.fnOf "record_in" "record_in" (defArgs s_record_in) (defBody s_record_in) (defScope s_record_in) .none kV10 dc10 pm10 an10 cd10 ct10), sl10⟩) (c10 : PySem.W.codeIn K cd10 "record_in" = true) (k10 : PySem.W.keepIn K (.ref f10) = true)
    (a16 : PySem.W.nsIn K mainGlobals "_law_some" = some (some (.ref f16))) (l16 : K.lookup f16 = some ⟨oc16, od16, .func (PySem.W.fnOf "_law_some" "_law_some" (defArgs s__law_some) (defBody s__law_some) (defScope s__law_some) .none kV16 dc16 pm16 an16 cd16 ct16), sl16⟩) (c16 : PySem.W.codeIn K cd16 "_law_some" = true) (k16 : PySem.W.keepIn K (.ref f16) = true)
    (a19 : PySem.W.nsIn K mainGlobals "_law_journal" = some (some (.ref f19))) (l19 : K.lookup f19 = some ⟨oc19, od19, .func (PySem.W.fnOf "_law_journal" "_law_journal" (defArgs s__law_journal) (defBody s__law_journal) (defScope s__law_journal) .none kV19 dc19 pm19 an19 cd19 ct19), sl19⟩) (c19 : PySem.W.codeIn K cd19 "_law_journal" = true) (k19 : PySem.W.keepIn K (.ref f19) = true)
    (a11 : PySem.W.nsIn K mainGlobals "opened" = some (some (.ref f11))) (l11 : K.lookup f11 = some ⟨oc11, od11, .func (PySem.W.fnOf "opened" "opened" (defArgs s_opened) (defBody s_opened) (defScope s_opened) .none kV11 dc11 pm11 an11 cd11 ct11), sl11⟩) (c11 : PySem.W.codeIn K cd11 "opened" = true) (k11 : PySem.W.keepIn K (.ref f11) = true)
    (a17 : PySem.W.nsIn K mainGlobals "_law_record" = some (some (.ref f17))) (l17 : K.lookup f17 = some ⟨oc17, od17, .func (PySem.W.fnOf "_law_record" "_law_record" (defArgs s__law_record) (defBody s__law_record) (defScope s__law_record) .none kV17 dc17 pm17 an17 cd17 ct17), sl17⟩) (c17 : PySem.W.codeIn K cd17 "_law_record" = true) (k17 : PySem.W.keepIn K (.ref f17) = true)
    (a21 : PySem.W.nsIn K mainGlobals "_law_bent_text" = some (some (.ref f21))) (l21 : K.lookup f21 = some ⟨oc21, od21, .func (PySem.W.fnOf "_law_bent_text" "_law_bent_text" (defArgs s__law_bent_text) (defBody s__law_bent_text) (defScope s__law_bent_text) .none kV21 dc21 pm21 an21 cd21 ct21), sl21⟩) (c21 : PySem.W.codeIn K cd21 "_law_bent_text" = true) (k21 : PySem.W.keepIn K (.ref f21) = true)
    (a23 : PySem.W.nsIn K mainGlobals "_law_opened" = some (some (.ref f23))) (l23 : K.lookup f23 = some ⟨oc23, od23, .func (PySem.W.fnOf "_law_opened" "_law_opened" (defArgs s__law_opened) (defBody s__law_opened) (defScope s__law_opened) .none kV23 dc23 pm23 an23 cd23 ct23), sl23⟩) (c23 : PySem.W.codeIn K cd23 "_law_opened" = true) (k23 : PySem.W.keepIn K (.ref f23) = true)
    (a12 : PySem.W.nsIn K mainGlobals "with_record" = some (some (.ref f12))) (l12 : K.lookup f12 = some ⟨oc12, od12, .func (PySem.W.fnOf "with_record" "with_record" (defArgs s_with_record) (defBody s_with_record) (defScope s_with_record) .none kV12 dc12 pm12 an12 cd12 ct12), sl12⟩) (c12 : PySem.W.codeIn K cd12 "with_record" = true) (k12 : PySem.W.keepIn K (.ref f12) = true)
    (a14 : PySem.W.nsIn K mainGlobals "_law_bag" = some (some (.ref f14))) (l14 : K.lookup f14 = some ⟨oc14, od14, .func (PySem.W.fnOf "_law_bag" "_law_bag" (defArgs s__law_bag) (defBody s__law_bag) (defScope s__law_bag) .none kV14 dc14 pm14 an14 cd14 ct14), sl14⟩) (c14 : PySem.W.codeIn K cd14 "_law_bag" = true) (k14 : PySem.W.keepIn K (.ref f14) = true)
    (a24 : PySem.W.nsIn K mainGlobals "_law_refused" = some (some (.ref f24))) (l24 : K.lookup f24 = some ⟨oc24, od24, .func (PySem.W.fnOf "_law_refused" "_law_refused" (defArgs s__law_refused) (defBody s__law_refused) (defScope s__law_refused) .none kV24 dc24 pm24 an24 cd24 ct24), sl24⟩) (c24 : PySem.W.codeIn K cd24 "_law_refused" = true) (k24 : PySem.W.keepIn K (.ref f24) = true)
    (a25 : PySem.W.nsIn K mainGlobals "law" = some (some (.ref f25))) (l25 : K.lookup f25 = some ⟨oc25, od25, .func (PySem.W.fnOf "law" "law" (defArgs s_law) (defBody s_law) (defScope s_law) .none kV25 dc25 pm25 an25 (.ref cc) ct25), sl25⟩) (c25 : PySem.W.codeIn K (.ref cc) "law" = true) (k25 : PySem.W.keepIn K (.ref f25) = true)
    (z_all : PySem.W.nsIn K mainGlobals "all" = some none)
    (z_enumerate : PySem.W.nsIn K mainGlobals "enumerate" = some none)
    (z_int : PySem.W.nsIn K mainGlobals "int" = some none)
    (z_isinstance : PySem.W.nsIn K mainGlobals "isinstance" = some none)
    (z_len : PySem.W.nsIn K mainGlobals "len" = some none)
    (z_list : PySem.W.nsIn K mainGlobals "list" = some none)
    (z_ord : PySem.W.nsIn K mainGlobals "ord" = some none)
    (z_range : PySem.W.nsIn K mainGlobals "range" = some none)
    (z_repr : PySem.W.nsIn K mainGlobals "repr" = some none)
    (z_sorted : PySem.W.nsIn K mainGlobals "sorted" = some none)
    (z_str : PySem.W.nsIn K mainGlobals "str" = some none)
    (z_tuple : PySem.W.nsIn K mainGlobals "tuple" = some none)
    (z_abs : PySem.W.nsIn K mainGlobals "abs" = some none)
    (z_LAST_SIGN : PySem.W.nsIn K mainGlobals "LAST_SIGN" = some (some (.int 126 t_LAST_SIGN)))
    (z_FIRST_SIGN : PySem.W.nsIn K mainGlobals "FIRST_SIGN" = some (some (.int 32 t_FIRST_SIGN)))
    (z_MODULUS : PySem.W.nsIn K mainGlobals "MODULUS" = some (some (.int 1000000007 t_MODULUS)))
    (lt : K.lookup cc = some ⟨eT, ddT, .fields vsT, slT⟩)
    (vt : vsT[11]? = some (.ref tb))
    (nt : K.lookup tb = none)
    (ht : PySem.W.codeHdIn K cc tb = true)
    (aC : PySem.W.nsIn K mainGlobals "Wrong" = some (some (.ref C)))
    (aS : PySem.W.nsIn K mainGlobals "StrewError" = some (some (.ref S)))
    (xL : K.lookup C = some (excClassObj nm q C N bs [.ref S, .type "ValueError", .type "Exception", .type "BaseException", .type "object"] true sn sub ab col dd m0 m1 m2 m3 m5 "ValueError.__new__"))
    (sa : PySem.W.findIn K (.ref C) "__setattr__" = some (some (.builtin "object.__setattr__")))
    (ga : PySem.W.findIn K (.ref C) "__getattribute__" = some (some (.builtin "BaseException.__getattribute__")))
    (gg : PySem.W.findIn K (.ref C) "__getattr__" = some none)
    (nb : PySem.W.findIn K (.ref C) "place" = some none)
    (aI : PySem.W.findIn K (.ref C) "__init__" = some (some (.ref fI)))
    (tI : PySem.W.typeIn K (.ref fI) = some (.type "function"))
    (lI : K.lookup fI = some ⟨ocI, odI, .func (PySem.W.fnOf "__init__" "Wrong.__init__" (defArgs s_init) (defBody s_init) (defScope s_init) .none kVI dcI pmI anI cdI ctI), slI⟩)
    (cI : PySem.W.codeIn K cdI "Wrong.__init__" = true)
    (kI : PySem.W.keepIn K (.ref fI) = true)
    (kC : PySem.W.keepIn K (.ref C) = true)
    (eC : PySem.W.subIn K (.ref C) (.type "BaseException") = some true)
    (tC : PySem.W.typeIn K (.ref C) = some (.type "type"))
    (hC : PySem.W.hasDictIn K C = true)
    (iC : PySem.W.isClsIn K C = true)
    (sC : PySem.W.subIn K (.ref C) (.ref C) = some true)
    (spS : PySem.W.specialIn K (.ref S) "__getattribute__" = some (some (.builtin "type.__getattribute__")))
    (rdS : PySem.W.readsIn K S (.type "type") = true)
    (fvS : PySem.W.findCls K (.ref S) (.type "type") "__init__" = some (.val (.builtin "ValueError.__init__")))
    : LawAtG l w K CX0 7 63 "script" mg fa h := by
  have e := hfa.symm.trans (PySem.W.mg_of X G a25)
  cases e
  have F_is_record := fun_mk (st := s_is_record) l7 c7 k7
  have b_is_record := F_is_record.binds (ps := ["thing"]) fun _ _ _ _ _ _ us hl => match us, hl with | [_], _ => rfl
  have m_is_record' := PySem.W.mg_of X G a7
  have F_sum_behind := fun_mk (st := s_sum_behind) l8 c8 k8
  have b_sum_behind := F_sum_behind.binds (ps := ["ahead", "record"]) fun _ _ _ _ _ _ us hl => match us, hl with | [_, _], _ => rfl
  have m_sum_behind' := PySem.W.mg_of X G a8
  have F__law_take := fun_mk (st := s__law_take) l15 c15 k15
  have b__law_take := F__law_take.binds (ps := ["bag", "many"]) fun _ _ _ _ _ _ us hl => match us, hl with | [_, _], _ => rfl
  have m__law_take' := PySem.W.mg_of X G a15
  have F__law_sum_behind := fun_mk (st := s__law_sum_behind) l18 c18 k18
  have b__law_sum_behind := F__law_sum_behind.binds (ps := ["ahead", "record"]) fun _ _ _ _ _ _ us hl => match us, hl with | [_, _], _ => rfl
  have m__law_sum_behind' := PySem.W.mg_of X G a18
  have F__law_alike := fun_mk (st := s__law_alike) l20 c20 k20
  have b__law_alike := F__law_alike.binds (ps := ["found", "due"]) fun _ _ _ _ _ _ us hl => match us, hl with | [_, _], _ => rfl
  have m__law_alike' := PySem.W.mg_of X G a20
  have F__law_is_record := fun_mk (st := s__law_is_record) l22 c22 k22
  have b__law_is_record := F__law_is_record.binds (ps := ["line"]) fun _ _ _ _ _ _ us hl => match us, hl with | [_], _ => rfl
  have m__law_is_record' := PySem.W.mg_of X G a22
  have F_journal_of := fun_mk (st := s_journal_of) l9 c9 k9
  have b_journal_of := F_journal_of.binds (ps := ["records"]) fun _ _ _ _ _ _ us hl => match us, hl with | [_], _ => rfl
  have m_journal_of' := PySem.W.mg_of X G a9
  have F_record_in := fun_mk (st := s_record_in) l10 c10 k10
  have b_record_in := F_record_in.binds (ps := ["line", "index", "ahead"]) fun _ _ _ _ _ _ us hl => match us, hl with | [_, _, _], _ => rfl
  have m_record_in' := PySem.W.mg_of X G a10
  have F__law_some := fun_mk (st := s__law_some) l16 c16 k16
  have b__law_some := F__law_some.binds (ps := ["bag", "things"]) fun _ _ _ _ _ _ us hl => match us, hl with | [_, _], _ => rfl
  have m__law_some' := PySem.W.mg_of X G a16
  have F__law_journal := fun_mk (st := s__law_journal) l19 c19 k19
  have b__law_journal := F__law_journal.binds (ps := ["records"]) fun _ _ _ _ _ _ us hl => match us, hl with | [_], _ => rfl
  have m__law_journal' := PySem.W.mg_of X G a19
  have F_opened := fun_mk (st := s_opened) l11 c11 k11
  have b_opened := F_opened.binds (ps := ["text"]) fun _ _ _ _ _ _ us hl => match us, hl with | [_], _ => rfl
  have m_opened' := PySem.W.mg_of X G a11
  have F__law_record := fun_mk (st := s__law_record) l17 c17 k17
  have b__law_record := F__law_record.binds (ps := ["bag"]) fun _ _ _ _ _ _ us hl => match us, hl with | [_], _ => rfl
  have m__law_record' := PySem.W.mg_of X G a17
  have F__law_bent_text := fun_mk (st := s__law_bent_text) l21 c21 k21
  have b__law_bent_text := F__law_bent_text.binds (ps := ["bag", "text"]) fun _ _ _ _ _ _ us hl => match us, hl with | [_, _], _ => rfl
  have m__law_bent_text' := PySem.W.mg_of X G a21
  have F__law_opened := fun_mk (st := s__law_opened) l23 c23 k23
  have b__law_opened := F__law_opened.binds (ps := ["text"]) fun _ _ _ _ _ _ us hl => match us, hl with | [_], _ => rfl
  have m__law_opened' := PySem.W.mg_of X G a23
  have F_with_record := fun_mk (st := s_with_record) l12 c12 k12
  have b_with_record := F_with_record.binds (ps := ["text", "record"]) fun _ _ _ _ _ _ us hl => match us, hl with | [_, _], _ => rfl
  have m_with_record' := PySem.W.mg_of X G a12
  have F__law_bag := fun_mk (st := s__law_bag) l14 c14 k14
  have b__law_bag := F__law_bag.binds (ps := ["script"]) fun _ _ _ _ _ _ us hl => match us, hl with | [_], _ => rfl
  have m__law_bag' := PySem.W.mg_of X G a14
  have F__law_refused := fun_mk (st := s__law_refused) l24 c24 k24
  have b__law_refused := F__law_refused.binds (ps := ["act"]) fun _ _ _ _ _ _ us hl => match us, hl with | [_], _ => rfl
  have m__law_refused' := PySem.W.mg_of X G a24
  have F_law := fun_mk (st := s_law) l25 c25 k25
  have b_law := F_law.binds (ps := ["script"]) fun _ _ _ _ _ _ us hl => match us, hl with | [_], _ => rfl
  have m_law' := PySem.W.mg_of X G a25
  have F_init := fun_mk (st := s_init) lI cI kI
  have b_init := F_init.binds (ps := ["self", "place"]) fun _ _ _ _ _ _ us hl => match us, hl with | [_, _], _ => rfl
  have T : Nms mg := { all := PySem.W.mg_none_of X G z_all, enumerate := PySem.W.mg_none_of X G z_enumerate, int := PySem.W.mg_none_of X G z_int, isinstance := PySem.W.mg_none_of X G z_isinstance, len := PySem.W.mg_none_of X G z_len, list := PySem.W.mg_none_of X G z_list, ord := PySem.W.mg_none_of X G z_ord, range := PySem.W.mg_none_of X G z_range, repr := PySem.W.mg_none_of X G z_repr, sorted := PySem.W.mg_none_of X G z_sorted, str := PySem.W.mg_none_of X G z_str, tuple := PySem.W.mg_none_of X G z_tuple, c_LAST_SIGN := ⟨_, PySem.W.mg_of X G z_LAST_SIGN⟩, c_FIRST_SIGN := ⟨_, PySem.W.mg_of X G z_FIRST_SIGN⟩, c_MODULUS := ⟨_, PySem.W.mg_of X G z_MODULUS⟩ }
  have T2 : W2.Nms mg := { all := PySem.W.mg_none_of X G z_all, isinstance := PySem.W.mg_none_of X G z_isinstance, ord := PySem.W.mg_none_of X G z_ord, str := PySem.W.mg_none_of X G z_str, c_LAST_SIGN := ⟨_, PySem.W.mg_of X G z_LAST_SIGN⟩, c_FIRST_SIGN := ⟨_, PySem.W.mg_of X G z_FIRST_SIGN⟩ }
  have T3 : W3.Nms mg := { all := PySem.W.mg_none_of X G z_all, isinstance := PySem.W.mg_none_of X G z_isinstance, len := PySem.W.mg_none_of X G z_len, ord := PySem.W.mg_none_of X G z_ord, str := PySem.W.mg_none_of X G z_str, tuple := PySem.W.mg_none_of X G z_tuple, c_LAST_SIGN := ⟨_, PySem.W.mg_of X G z_LAST_SIGN⟩, c_FIRST_SIGN := ⟨_, PySem.W.mg_of X G z_FIRST_SIGN⟩, c_MODULUS := ⟨_, PySem.W.mg_of X G z_MODULUS⟩ }
  have TX : TxtX K mg C S fI := ⟨PySem.W.mg_of X G aC, PySem.W.mg_of X G aS, ⟨⟨nm, q, N, bs, _, sn, sub, ab, col, dd, m0, m1, m2, m3, m5, xL, rfl⟩, sa, eC, tC, kC⟩, aI, tI, ⟨ga, gg, eC, hC⟩, nb, spS, rdS, fvS, exm_own eC iC tC sC⟩
  refine ⟨PySem.W.fnOf "law" "law" (defArgs s_law) (defBody s_law) (defScope s_law) .none kV25 dc25 pm25 an25 (.ref cc) ct25, [(cc, tb)], spLaw K tb, fun p hp => ?_, fun p hp => ?_, fun p hp => ?_, fun s v => .of_eq rfl, fun H a ns hl _ hT hS => ⟨a, ns, rfl, hS, hl, hT (cc, tb) (List.mem_singleton.mpr rfl), fun _ => rfl⟩, fun base inK ns TB => ?_⟩
  · cases List.mem_singleton.mp hp
    exact own cc tb _ _ _ _ _ _ l25 rfl rfl lt vt
  · cases List.mem_singleton.mp hp
    exact nt
  · cases List.mem_singleton.mp hp
    exact PySem.W.codeHd_of_K X ht
  have C_is_record := cal_is_record (P := l.prog) (w := w) (base := base) T F_is_record m_is_record' b_is_record 
  have C_sum_behind := cal_sum_behind (P := l.prog) (w := w) (base := base) T F_sum_behind m_sum_behind' b_sum_behind 
  have C__law_take := cal__law_take (P := l.prog) (w := w) (base := base) T F__law_take m__law_take' b__law_take 
  have C__law_sum_behind := cal__law_sum_behind (P := l.prog) (w := w) (base := base) T F__law_sum_behind m__law_sum_behind' b__law_sum_behind 
  have C__law_alike := cal__law_alike (P := l.prog) (w := w) (base := base) T F__law_alike m__law_alike' b__law_alike 
  have C__law_is_record := cal__law_is_record (P := l.prog) (w := w) (base := base) T F__law_is_record m__law_is_record' b__law_is_record 
  have C_journal_of := cal_journal_of (P := l.prog) (w := w) (base := base) T F_journal_of m_journal_of' b_journal_of C_sum_behind
  have C_record_in := cal_record_in (P := l.prog) (w := w) (base := base) T F_record_in m_record_in' b_record_in C_sum_behind C_is_record
  have C__law_some := cal__law_some (P := l.prog) (w := w) (base := base) T F__law_some m__law_some' b__law_some C__law_take
  have C__law_journal := cal__law_journal (P := l.prog) (w := w) (base := base) T F__law_journal m__law_journal' b__law_journal C__law_sum_behind
  have C_opened := cal_opened (P := l.prog) (w := w) (base := base) T F_opened m_opened' b_opened C_sum_behind C_record_in
  have C__law_record := cal__law_record (P := l.prog) (w := w) (base := base) T F__law_record m__law_record' b__law_record C__law_take C__law_some
  have C__law_bent_text := cal__law_bent_text (P := l.prog) (w := w) (base := base) T F__law_bent_text m__law_bent_text' b__law_bent_text C__law_some C__law_take
  have C__law_opened := cal__law_opened (P := l.prog) (w := w) (base := base) T F__law_opened m__law_opened' b__law_opened C__law_is_record C__law_journal
  have C_with_record := cal_with_record (P := l.prog) (w := w) (base := base) T F_with_record m_with_record' b_with_record C_journal_of C_is_record C_opened
  have FI : FnOk l.prog w K mg base CX0 1 fI _ ["self", "place"] (spInit C) := ok_init TX F_init
  have K_sum := W3.calK_sum_behind (P := l.prog) (w := w) (base := base) T3 F_sum_behind m_sum_behind' b_sum_behind
  have K_is := W3.calK_is_record (P := l.prog) (w := w) (base := base) T3 F_is_record m_is_record' b_is_record
  have K_ri := W3.calK_record_in (P := l.prog) (w := w) (base := base) T3 F_record_in m_record_in' b_record_in K_sum K_is
  have FE := W3.fnK_opened (P := l.prog) (w := w) (base := base) T3 F_opened K_sum K_ri
  have FO : FnOk l.prog w K mg base (L2.CX l.prog w) 3 f11 _ ["text"] (spO C) := fnOk_or (ok_openedX TX T FI b_init F_opened) (FnOk.imp (FnOk.cx FE) fun vs H Q E h => emp_of h)
  have FR : FnOk l.prog w K mg base CX0 1 f7 _ ["thing"] spIsBad := FnOk.imp (fnOk_or (W2.fnK_is_record (P := l.prog) (w := w) (base := base) T2 F_is_record) (W3.fnK_is_record (P := l.prog) (w := w) (base := base) T3 F_is_record)) fun vs H Q E h => isBad_of h
  have FW : FnOk l.prog w K mg base (L2.CX l.prog w) 4 f12 _ ["text", "record"] (spWithX C) := ok_withX TX FI b_init FO m_opened' k11 b_opened FR m_is_record' k7 b_is_record F_with_record
  have FB : FnOk l.prog w K mg base CX0 1 f14 _ ["script"] (spBag K) := ok__law_bag (PySem.W.mg_none_of X G z_abs) F__law_bag
  exact ok_law TX T l25 c25 (TB (cc, tb) (List.mem_singleton.mpr rfl)) FB m__law_bag' k14 b__law_bag FO m_opened' k11 b_opened FW m_with_record' k12 b_with_record l24 c24 m__law_refused' k24 b__law_refused
    C__law_take C__law_alike C_opened C__law_journal C_with_record C__law_opened C__law_bent_text C__law_sum_behind C_sum_behind C__law_record C_journal_of C__law_some
end W
end
open PySem PySem.W PyProof.Rows in
set_option maxRecDepth 100000 in
set_option maxHeartbeats 0 in
theorem PySem.Challenge.cw_wellstrewn_k64_journals_holds : PySem.Challenge.rw_wellstrewn_k64_journals.Holds := by
  w_on; o_law; k_head; (case hw => w_witness2)
  k_fill
  refine DL.walk_ofTG (l := PySem.Challenge.rw_wellstrewn_k64_journals) (n := 63) (k := 7) (CX := fun _ => L2.CX0) (x := "script") rfl (by decide) rfl ⟨rfl, by decide, by decide⟩ ?hrec (fun w h Y => PySem.W.km_in_of Y) ?F (fun _ _ _ _ _ z => z)
  case hrec => decide +kernel
  case F =>
    intro w mg fa h Y KX G hmg own
    refine' W.all_mk KX G hmg own ?a7 ?l7 ?c7 ?k7 ?a8 ?l8 ?c8 ?k8 ?a15 ?l15 ?c15 ?k15 ?a18 ?l18 ?c18 ?k18 ?a20 ?l20 ?c20 ?k20 ?a22 ?l22 ?c22 ?k22 ?a9 ?l9 ?c9 ?k9 ?a10 ?l10 ?c10 ?k10 ?a16 ?l16 ?c16 ?k16 ?a19 ?l19 ?c19 ?k19 ?a11 ?l11 ?c11 ?k11 ?a17 ?l17 ?c17 ?k17 ?a21 ?l21 ?c21 ?k21 ?a23 ?l23 ?c23 ?k23 ?a12 ?l12 ?c12 ?k12 ?a14 ?l14 ?c14 ?k14 ?a24 ?l24 ?c24 ?k24 ?a25 ?l25 ?c25 ?k25 ?z_all ?z_enumerate ?z_int ?z_isinstance ?z_len ?z_list ?z_ord ?z_range ?z_repr ?z_sorted ?z_str ?z_tuple ?z_abs ?z_LAST_SIGN ?z_FIRST_SIGN ?z_MODULUS ?lt ?vt ?nt ?ht ?aC ?aS ?xL ?sa ?ga ?gg ?nb ?aI ?tI ?lI ?cI ?kI ?kC ?eC ?tC ?hC ?iC ?sC ?spS ?rdS ?fvS
    (case a7 => k_is)
    (case l7 => k_is)
    (case c7 => k_is)
    (case k7 => k_is)
    (case a8 => k_is)
    (case l8 => k_is)
    (case c8 => k_is)
    (case k8 => k_is)
    (case a15 => k_is)
    (case l15 => k_is)
    (case c15 => k_is)
    (case k15 => k_is)
    (case a18 => k_is)
    (case l18 => k_is)
    (case c18 => k_is)
    (case k18 => k_is)
    (case a20 => k_is)
    (case l20 => k_is)
    (case c20 => k_is)
    (case k20 => k_is)
    (case a22 => k_is)
    (case l22 => k_is)
    (case c22 => k_is)
    (case k22 => k_is)
    (case a9 => k_is)
    (case l9 => k_is)
    (case c9 => k_is)
    (case k9 => k_is)
    (case a10 => k_is)
    (case l10 => k_is)
    (case c10 => k_is)
    (case k10 => k_is)
    (case a16 => k_is)
    (case l16 => k_is)
    (case c16 => k_is)
    (case k16 => k_is)
    (case a19 => k_is)
    (case l19 => k_is)
    (case c19 => k_is)
    (case k19 => k_is)
    (case a11 => k_is)
    (case l11 => k_is)
    (case c11 => k_is)
    (case k11 => k_is)
    (case a17 => k_is)
    (case l17 => k_is)
    (case c17 => k_is)
    (case k17 => k_is)
    (case a21 => k_is)
    (case l21 => k_is)
    (case c21 => k_is)
    (case k21 => k_is)
    (case a23 => k_is)
    (case l23 => k_is)
    (case c23 => k_is)
    (case k23 => k_is)
    (case a12 => k_is)
    (case l12 => k_is)
    (case c12 => k_is)
    (case k12 => k_is)
    (case a14 => k_is)
    (case l14 => k_is)
    (case c14 => k_is)
    (case k14 => k_is)
    (case a24 => k_is)
    (case l24 => k_is)
    (case c24 => k_is)
    (case k24 => k_is)
    (case a25 => k_is)
    (case l25 => k_is)
    (case c25 => k_is)
    (case k25 => k_is)
    (case z_all => k_is)
    (case z_enumerate => k_is)
    (case z_int => k_is)
    (case z_isinstance => k_is)
    (case z_len => k_is)
    (case z_list => k_is)
    (case z_ord => k_is)
    (case z_range => k_is)
    (case z_repr => k_is)
    (case z_sorted => k_is)
    (case z_str => k_is)
    (case z_tuple => k_is)
    (case z_abs => k_is)
    (case z_LAST_SIGN => k_is)
    (case z_FIRST_SIGN => k_is)
    (case z_MODULUS => k_is)
    (case lt => k_is)
    (case vt => exact rfl)
    (case nt => kernel_rfl)
    (case ht => kernel_rfl)
    (case aC => k_is)
    (case aS => k_is)
    (case xL => k_is)
    (case sa => k_is)
    (case ga => k_is)
    (case gg => k_is)
    (case nb => k_is)
    (case aI => k_is)
    (case tI => k_is)
    (case lI => k_is)
    (case cI => k_is)
    (case kI => k_is)
    (case kC => k_is)
    (case eC => k_is)
    (case tC => k_is)
    (case hC => k_is)
    (case iC => k_is)
    (case sC => first | rfl | k_is)
    (case spS => k_is)
    (case rdS => k_is)
    (case fvS => k_is)
