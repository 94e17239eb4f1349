import PyProof.Rows.All
import Wide.All
import OpenK.AllK
import Wide.FinOn
import HandS.ForMost
import HandS.Flow
import HandS.Wide
import HandS.EndBits
import HandS.Deep
import HandS.Codes
import HandS.IsInst
import KE.KRevSl
import HandS.Style
import PySem.Challenge.RW_asifanew_k14_hints_put_together
set_option Elab.async false
set_option linter.all false
set_option autoImplicit false
set_option maxRecDepth 100000
/-! DL: plain data (PyData) over the hand layer: a def's body by a function on plain data. -/
namespace DL
open PySem PySem.Spec PyProof.Rows L2

abbrev D := PyData
inductive L where
  | val (d : D)
  | own (d : D) (l : Bool)
abbrev DSt := List (Option L)

/-- a text that the model keeps -/
def sOk (x : Str) : Bool := decide (x.length ≤ sizeLine) && PyData.strOk x
theorem sOk_len {x : Str} (h : sOk x = true) : x.length ≤ sizeLine := of_decide_eq_true (Bool.and_eq_true_iff.mp h).1
theorem sOk_ok {x : Str} (h : sOk x = true) : PyData.strOk x = true := (Bool.and_eq_true_iff.mp h).2
theorem sOk_mk {x : Str} (h : x.length ≤ sizeLine) (h2 : PyData.strOk x = true) : sOk x = true := Bool.and_eq_true_iff.mpr ⟨decide_eq_true h, h2⟩

def keyD : Key → D
  | .inl i => .int i
  | .inr s => .str s

mutual
/-- the value v is the plain data d, read in the heap H -/
inductive Rp (K : PySem.W.Frag) (H : Hp) : V → D → Prop
  | non : Rp K H .non .none
  | bl (b : Bool) : Rp K H (.bl b) (.bool b)
  | int (i : Int) : Rp K H (.int i) (.int i)
  | str (x : Str) (h : sOk x = true) : Rp K H (.str x) (.str x)
  | lst {a : Addr} {xs : List V} {ds : List D} : SqL K H a xs → RpAll K H xs ds → Rp K H (.ref a) (.list ds)
  | tup {a : Addr} {xs : List V} {ds : List D} : SqT K H a xs → RpAll K H xs ds → Rp K H (.ref a) (.tuple ds)
  | dic {a : Addr} {kvs : List (Key × V)} {ps : List (D × D)} : H a = some (.dK kvs) → RpKv K H kvs ps → Rp K H (.ref a) (.dict ps)
inductive RpAll (K : PySem.W.Frag) (H : Hp) : List V → List D → Prop
  | nil : RpAll K H [] []
  | cons {v : V} {vs : List V} {d : D} {ds : List D} : Rp K H v d → RpAll K H vs ds → RpAll K H (v :: vs) (d :: ds)
inductive RpKv (K : PySem.W.Frag) (H : Hp) : List (Key × V) → List (D × D) → Prop
  | nil : RpKv K H [] []
  | cons {k : Key} {v : V} {vs : List (Key × V)} {d : D} {ds : List (D × D)} : Rp K H v d → RpKv K H vs ds → RpKv K H ((k, v) :: vs) ((keyD k, d) :: ds)
end

theorem sameRd {H H' : Hp} {a : Addr} {u : HO} (e : Same H H') (h : Rd H a u) : Rd H' a u := by
  rcases h with h | ⟨o, h⟩
  · exact .inl (e _ _ h)
  · exact .inr ⟨o, e _ _ h⟩
theorem sameT {K : PySem.W.Frag} {H H' : Hp} {a : Addr} {xs : List V} (e : Same H H') (h : SqT K H a xs) : SqT K H' a xs := by
  rcases h with h | h
  · exact .inl (sameRd e h)
  · exact .inr h
mutual
theorem Rp.mono {K : PySem.W.Frag} {H H' : Hp} (e : Same H H') : ∀ {v : V} {d : D}, Rp K H v d → Rp K H' v d
  | _, _, .non => .non
  | _, _, .bl b => .bl b
  | _, _, .int i => .int i
  | _, _, .str x h => .str x h
  | _, _, .lst h r => .lst (e.seq h) (RpAll.mono e r)
  | _, _, .tup h r => .tup (sameT e h) (RpAll.mono e r)
  | _, _, .dic h r => .dic (e _ _ h) (RpKv.mono e r)
theorem RpAll.mono {K : PySem.W.Frag} {H H' : Hp} (e : Same H H') : ∀ {v : List V} {d : List D}, RpAll K H v d → RpAll K H' v d
  | _, _, .nil => .nil
  | _, _, .cons r t => .cons (Rp.mono e r) (RpAll.mono e t)
theorem RpKv.mono {K : PySem.W.Frag} {H H' : Hp} (e : Same H H') : ∀ {v : List (Key × V)} {d : List (D × D)}, RpKv K H v d → RpKv K H' v d
  | _, _, .nil => .nil
  | _, _, .cons r t => .cons (Rp.mono e r) (RpKv.mono e t)
end
section
variable {K : PySem.W.Frag} {H : Hp}
theorem RpAll.length : ∀ {vs : List V} {ds : List D}, RpAll K H vs ds → vs.length = ds.length
  | _, _, .nil => rfl
  | _, _, .cons _ t => congrArg (· + 1) (RpAll.length t)
theorem RpKv.length : ∀ {vs : List (Key × V)} {ds : List (D × D)}, RpKv K H vs ds → vs.length = ds.length
  | _, _, .nil => rfl
  | _, _, .cons _ t => congrArg (· + 1) (RpKv.length t)
theorem RpAll.append : ∀ {vs ws : List V} {ds es : List D}, RpAll K H vs ds → RpAll K H ws es → RpAll K H (vs ++ ws) (ds ++ es)
  | _, _, _, _, .nil, s => s
  | _, _, _, _, .cons r t, s => .cons r (RpAll.append t s)
theorem RpAll.take : ∀ {vs : List V} {ds : List D} (n : Nat), RpAll K H vs ds → RpAll K H (vs.take n) (ds.take n)
  | _, _, 0, _ => by simpa using .nil
  | _, _, _ + 1, .nil => .nil
  | _, _, n + 1, .cons r t => .cons r (RpAll.take n t)
theorem RpAll.drop : ∀ {vs : List V} {ds : List D} (n : Nat), RpAll K H vs ds → RpAll K H (vs.drop n) (ds.drop n)
  | _, _, 0, r => by simpa using r
  | _, _, _ + 1, .nil => .nil
  | _, _, n + 1, .cons _ t => RpAll.drop n t
theorem RpAll.get : ∀ {vs : List V} {ds : List D} {i : Nat} {d : D}, RpAll K H vs ds → ds[i]? = some d → ∃ v, vs[i]? = some v ∧ Rp K H v d
  | _, _, _, _, .nil, e => by simp at e
  | _, _, 0, _, .cons r _, e => by simp at e; subst e; exact ⟨_, rfl, r⟩
  | _, _, i + 1, _, .cons _ t, e => by
    obtain ⟨v, h1, h2⟩ := RpAll.get (i := i) t (by simpa using e)
    exact ⟨v, by simpa using h1, h2⟩
theorem RpAll.getV : ∀ {vs : List V} {ds : List D} {i : Nat} {v : V}, RpAll K H vs ds → vs[i]? = some v → ∃ d, ds[i]? = some d ∧ Rp K H v d
  | _, _, _, _, .nil, e => by simp at e
  | _, _, 0, _, .cons r _, e => by simp at e; subst e; exact ⟨_, rfl, r⟩
  | _, _, i + 1, _, .cons _ t, e => by
    obtain ⟨v, h1, h2⟩ := RpAll.getV (i := i) t (by simpa using e)
    exact ⟨v, by simpa using h1, h2⟩
theorem RpAll.set {v : V} {d : D} (r : Rp K H v d) : ∀ {vs : List V} {ds : List D} (i : Nat), RpAll K H vs ds → RpAll K H (vs.set i v) (ds.set i d)
  | _, _, _, .nil => .nil
  | _, _, 0, .cons _ t => .cons r t
  | _, _, i + 1, .cons q t => .cons q (RpAll.set r i t)
theorem RpAll.reverse : ∀ {vs : List V} {ds : List D}, RpAll K H vs ds → RpAll K H vs.reverse ds.reverse
  | _, _, .nil => .nil
  | _, _, .cons r t => by
    rw [List.reverse_cons, List.reverse_cons]
    exact (RpAll.reverse t).append (.cons r .nil)
theorem RpAll.dropLast : ∀ {vs : List V} {ds : List D}, RpAll K H vs ds → RpAll K H vs.dropLast ds.dropLast
  | _, _, .nil => .nil
  | _, _, .cons r .nil => .nil
  | _, _, .cons r (.cons q t) => .cons r (RpAll.dropLast (.cons q t))
theorem RpAll.eraseIdx : ∀ {vs : List V} {ds : List D} (i : Nat), RpAll K H vs ds → RpAll K H (vs.eraseIdx i) (ds.eraseIdx i)
  | _, _, _, .nil => .nil
  | _, _, 0, .cons _ t => t
  | _, _, i + 1, .cons q t => .cons q (RpAll.eraseIdx i t)
theorem RpAll.strs : ∀ {vs : List V} {xs : List Str}, RpAll K H vs (xs.map .str) → vs = xs.map V.str
  | _, [], .nil => rfl
  | _, x :: r, .cons (.str _ _) t => by rw [RpAll.strs t, List.map_cons]
theorem RpAll.ints : ∀ {vs : List V} {xs : List Int}, RpAll K H vs (xs.map .int) → vs = xs.map V.int
  | _, [], .nil => rfl
  | _, x :: r, .cons (.int _) t => by rw [RpAll.ints t, List.map_cons]
theorem RpAll.bools : ∀ {vs : List V} {xs : List Bool}, RpAll K H vs (xs.map .bool) → vs = xs.map V.bl
  | _, [], .nil => rfl
  | _, x :: r, .cons (.bl _) t => by rw [RpAll.bools t, List.map_cons]
theorem RpAll.of_strs : ∀ (xs : List Str), xs.all sOk = true → RpAll K H (xs.map V.str) (xs.map .str)
  | [], _ => .nil
  | x :: r, h => by
    rw [List.all_cons, Bool.and_eq_true] at h
    exact .cons (.str x h.1) (RpAll.of_strs r h.2)
theorem RpAll.strsOk : ∀ {vs : List V} {xs : List Str}, RpAll K H vs (xs.map .str) → xs.all sOk = true
  | _, [], .nil => rfl
  | _, x :: r, .cons (.str _ h) t => by rw [List.all_cons, h, RpAll.strsOk t]; rfl
theorem RpAll.of_ints : ∀ (xs : List Int), RpAll K H (xs.map V.int) (xs.map .int)
  | [] => .nil
  | x :: r => .cons (.int x) (RpAll.of_ints r)
end

/-- an own object's content -/
def OwnAt (K : PySem.W.Frag) (B H : Hp) (a : Addr) : D → Prop
  | .list ds => ∃ vs, H a = some (.lst vs) ∧ RpAll K B vs ds
  | .dict ps => ∃ kvs, H a = some (.dK kvs) ∧ RpKv K B kvs ps
  | _ => False
/-- the entry: what was frozen, what was tracked, what was lent (slot, address) -/
structure Ent where
  B : Hp
  H : Hp
  lent : List (Nat × Addr)

structure Hold (K : PySem.W.Frag) (Γ : Ent) (B H : Hp) (σ : L2.St) (ds : DSt) : Prop where
  len : σ.length = ds.length
  bh : Same B H
  gb : Same Γ.B B
  keep : ∀ b o, Γ.H b = some o → (∀ i, (i, b) ∉ Γ.lent) → H b = some o
  fresh : ∀ b o, B b = some o → Γ.B b = some o ∨ (Γ.B b = none ∧ Γ.H b = none)
  val : ∀ (i : Nat) d, ds[i]? = some (some (.val d)) → ∃ v, σ[i]? = some (some v) ∧ Rp K B v d
  own : ∀ (i : Nat) d l, ds[i]? = some (some (.own d l)) → ∃ a, σ[i]? = some (some (.ref a)) ∧ B a = none ∧ OwnAt K B H a d ∧ (l = false → Γ.H a = none) ∧ (l = true → (i, a) ∈ Γ.lent)
  inj : ∀ (i j : Nat) d e l m a, ds[i]? = some (some (.own d l)) → ds[j]? = some (some (.own e m)) → σ[i]? = some (some (.ref a)) → σ[j]? = some (some (.ref a)) → i = j
  lent : ∀ p ∈ Γ.lent, ∃ d, ds[p.1]? = some (some (.own d true)) ∧ σ[p.1]? = some (some (.ref p.2))
  lb : ∀ p ∈ Γ.lent, ∃ o, Γ.H p.2 = some o

/-- a is a new object of ours, in no slot -/
structure NewOwn (K : PySem.W.Frag) (Γ : Ent) (B H : Hp) (σ : L2.St) (ds : DSt) (a : Addr) (d : D) : Prop where
  b : B a = none
  at_ : OwnAt K B H a d
  g : Γ.H a = none
  ne : ∀ (i : Nat) e l, ds[i]? = some (some (.own e l)) → σ[i]? ≠ some (some (.ref a))

section
variable {K : PySem.W.Frag} {Γ : Ent} {B H : Hp} {σ : L2.St} {ds : DSt}
theorem OwnAt.mono {B' : Hp} {a : Addr} {d : D} (e : Same B B') (h : OwnAt K B H a d) : OwnAt K B' H a d := by
  cases d <;> first | exact h | (obtain ⟨vs, h1, h2⟩ := h; exact ⟨vs, h1, h2.mono e⟩)
theorem OwnAt.there {a : Addr} {d : D} (h : OwnAt K B H a d) : ∃ o, H a = some o := by
  cases d <;> first | exact h.elim | (obtain ⟨vs, h1, _⟩ := h; exact ⟨_, h1⟩)
theorem OwnAt.heap {H' : Hp} {a : Addr} {d : D} (e : ∀ o, H a = some o → H' a = some o) (h : OwnAt K B H a d) : OwnAt K B H' a d := by
  cases d <;> first | exact h | (obtain ⟨vs, h1, h2⟩ := h; exact ⟨vs, e _ h1, h2⟩)
theorem Hold.gnone (h : Hold K Γ B H σ ds) {p : Addr} (n : H p = none) : Γ.H p = none := by
  cases q : Γ.H p with
  | none => rfl
  | some o =>
    by_cases hl : ∀ i, (i, p) ∉ Γ.lent
    · have := h.keep p o q hl
      rw [n] at this; cases this
    · have : ∃ i, (i, p) ∈ Γ.lent := Classical.byContradiction fun z => hl fun i hi => z ⟨i, hi⟩
      obtain ⟨i, hi⟩ := this
      obtain ⟨d, e1, e2⟩ := h.lent _ hi
      obtain ⟨a, e3, _, o3, _⟩ := h.own i d true e1
      have e4 : some (some (V.ref a)) = some (some (V.ref p)) := e3.symm.trans e2
      cases e4
      obtain ⟨o, e5⟩ := o3.there
      rw [n] at e5; cases e5
theorem Hold.bnone (h : Hold K Γ B H σ ds) {p : Addr} (n : H p = none) : B p = none := h.bh.free n
theorem Hold.ownNe (h : Hold K Γ B H σ ds) {p : Addr} (n : H p = none) : ∀ (i : Nat) e l, ds[i]? = some (some (.own e l)) → σ[i]? ≠ some (some (.ref p)) := fun i e l q z => by
  obtain ⟨a, e3, _, o3, _⟩ := h.own i e l q
  rw [e3] at z; cases z
  obtain ⟨o, e5⟩ := o3.there
  rw [n] at e5; cases e5
/-- the heap grows, the frozen part not -/
theorem Hold.grow (h : Hold K Γ B H σ ds) {H' : Hp} (e : Same H H') : Hold K Γ B H' σ ds :=
  ⟨h.len, h.bh.trans e, h.gb, fun b o q l => e _ _ (h.keep b o q l), h.fresh, h.val, fun i d l q => by
    obtain ⟨a, e1, e2, e3, e4⟩ := h.own i d l q
    exact ⟨a, e1, e2, e3.heap (e a), e4⟩, h.inj, h.lent, h.lb⟩
/-- a new object, frozen at once -/
theorem Hold.new (h : Hold K Γ B H σ ds) {p : Addr} {o : HO} (n : H p = none) : Hold K Γ (upd B p o) (upd H p o) σ ds := by
  have bn := h.bnone n
  have sb : Same B (upd B p o) := fun b u q => by rw [upd_ne (ne_of_none q bn)]; exact q
  have sh : Same H (upd H p o) := fun b u q => by rw [upd_ne (ne_of_none q n)]; exact q
  refine ⟨h.len, fun b u q => ?_, h.gb.trans sb, fun b u q l => sh _ _ (h.keep b u q l), fun b u q => ?_, fun i d q => ?_, fun i d l q => ?_, h.inj, h.lent, h.lb⟩
  · by_cases hb : b = p
    · subst hb; rw [upd_same] at q ⊢; exact q
    · rw [upd_ne hb] at q ⊢; exact h.bh _ _ q
  · by_cases hb : b = p
    · subst hb
      exact .inr ⟨h.gb.free bn, h.gnone n⟩
    · rw [upd_ne hb] at q; exact h.fresh b u q
  · obtain ⟨v, e, r⟩ := h.val i d q
    exact ⟨v, e, r.mono sb⟩
  · obtain ⟨a, e1, e2, e3, e4⟩ := h.own i d l q
    have na : a ≠ p := by
      obtain ⟨o, e5⟩ := e3.there
      exact ne_of_none e5 n
    exact ⟨a, e1, by rw [upd_ne na]; exact e2, (e3.mono sb).heap (sh a), e4⟩
theorem same_updB {p : Addr} {o : HO} (n : B p = none) : Same B (upd B p o) := fun b u q => by rw [upd_ne (ne_of_none q n)]; exact q
/-- a new object, not frozen -/
theorem Hold.newOwn (h : Hold K Γ B H σ ds) {p : Addr} {o : HO} {d : D} (n : H p = none) (hd : OwnAt K B (upd H p o) p d) : Hold K Γ B (upd H p o) σ ds ∧ NewOwn K Γ B (upd H p o) σ ds p d :=
  ⟨h.grow (same_updB n), h.bnone n, hd, h.gnone n, h.ownNe n⟩
/-- an own object that is in no slot is frozen -/
theorem NewOwn.freeze {a : Addr} {d : D} (w : NewOwn K Γ B H σ ds a d) (h : Hold K Γ B H σ ds) : ∃ B', Same B B' ∧ Hold K Γ B' H σ ds ∧ Rp K B' (.ref a) d := by
  obtain ⟨o, ho⟩ := w.at_.there
  have sb : Same B (upd B a o) := same_updB w.b
  refine ⟨upd B a o, sb, ⟨h.len, fun b u q => ?_, h.gb.trans sb, h.keep, fun b u q => ?_, fun i d q => ?_, fun i d l q => ?_, h.inj, h.lent, h.lb⟩, ?_⟩
  · by_cases hb : b = a
    · subst hb; rw [upd_same] at q; rw [← q]; exact ho
    · rw [upd_ne hb] at q; exact h.bh _ _ q
  · by_cases hb : b = a
    · subst hb
      exact .inr ⟨h.gb.free w.b, w.g⟩
    · rw [upd_ne hb] at q; exact h.fresh b u q
  · obtain ⟨v, e, r⟩ := h.val i d q
    exact ⟨v, e, r.mono sb⟩
  · obtain ⟨c, e1, e2, e3, e4⟩ := h.own i d l q
    have nc : c ≠ a := fun z => w.ne i d l q (by rw [← z]; exact e1)
    exact ⟨c, e1, by rw [upd_ne nc]; exact e2, e3.mono sb, e4⟩
  · have at' := w.at_
    cases d with
    | list xs =>
      obtain ⟨vs, h1, h2⟩ := at'
      rw [ho] at h1; cases h1
      exact .lst (.inl (.inl upd_same)) (h2.mono sb)
    | dict ps =>
      obtain ⟨vs, h1, h2⟩ := at'
      rw [ho] at h1; cases h1
      exact .dic upd_same (h2.mono sb)
    | _ => exact (show False from at').elim
/-- .. an own slot is frozen -/
@[simp] def frz1 (ds : DSt) (i : Nat) : DSt := match ds[i]? with
  | some (some (.own d false)) => ds.set i (some (.val d))
  | _ => ds
theorem Hold.freeze (h : Hold K Γ B H σ ds) (i : Nat) : ∃ B', Same B B' ∧ Hold K Γ B' H σ (frz1 ds i) := by
  unfold frz1
  split
  case h_2 => exact ⟨B, Same.refl B, h⟩
  case h_1 d hd =>
    obtain ⟨a, e1, e2, e3, e4, _⟩ := h.own i d false hd
    have hi : i < ds.length := (List.getElem?_eq_some_iff.mp hd).1
    -- the same state with the slot forgotten
    have h' : Hold K Γ B H σ (ds.set i none) := by
      have out : ∀ (j : Nat) x, (ds.set i none)[j]? = some (some x) → ds[j]? = some (some x) ∧ j ≠ i := fun j x q => by
        by_cases hj : j = i
        · subst hj; rw [List.getElem?_set_self hi] at q; cases q
        · rw [List.getElem?_set_ne (Ne.symm hj)] at q; exact ⟨q, hj⟩
      refine ⟨by rw [List.length_set]; exact h.len, h.bh, h.gb, h.keep, h.fresh, fun j e q => h.val j e (out j _ q).1, fun j e l q => h.own j e l (out j _ q).1, fun j k e f l m b q1 q2 => h.inj j k e f l m b (out j _ q1).1 (out k _ q2).1, fun p hp => ?_, h.lb⟩
      obtain ⟨e, q1, q2⟩ := h.lent p hp
      refine ⟨e, ?_, q2⟩
      have : p.1 ≠ i := fun z => by rw [z, hd] at q1; cases q1
      rw [List.getElem?_set_ne (Ne.symm this)]
      exact q1
    have w : NewOwn K Γ B H σ (ds.set i none) a d := by
      refine ⟨e2, e3, e4 rfl, fun j e l q z => ?_⟩
      by_cases hj : j = i
      · subst hj; rw [List.getElem?_set_self hi] at q; cases q
      · rw [List.getElem?_set_ne (Ne.symm hj)] at q
        exact hj (h.inj j i e d l false a q hd z e1)
    obtain ⟨B', s, h2, r⟩ := w.freeze h'
    refine ⟨B', s, ⟨by rw [List.length_set]; exact h2.len.trans (List.length_set ..), h2.bh, h2.gb, h2.keep, h2.fresh, fun j e q => ?_, fun j e l q => ?_, fun j k e f l m b q1 q2 => ?_, fun p hp => ?_, h2.lb⟩⟩
    · by_cases hj : j = i
      · subst hj
        rw [List.getElem?_set_self hi] at q
        cases q
        exact ⟨_, e1, r⟩
      · rw [List.getElem?_set_ne (Ne.symm hj)] at q
        exact h2.val j e (by rw [List.getElem?_set_ne (Ne.symm hj)]; exact q)
    · by_cases hj : j = i
      · subst hj; rw [List.getElem?_set_self hi] at q; cases q
      · rw [List.getElem?_set_ne (Ne.symm hj)] at q
        exact h2.own j e l (by rw [List.getElem?_set_ne (Ne.symm hj)]; exact q)
    · have z : ∀ (j : Nat) e l, (ds.set i (some (.val d)))[j]? = some (some (.own e l)) → (ds.set i none)[j]? = some (some (.own e l)) := fun j e l q => by
        by_cases hj : j = i
        · subst hj; rw [List.getElem?_set_self hi] at q; cases q
        · rw [List.getElem?_set_ne (Ne.symm hj)] at q ⊢; exact q
      exact h2.inj j k e f l m b (z _ _ _ q1) (z _ _ _ q2)
    · obtain ⟨e, q1, q2⟩ := h2.lent p hp
      refine ⟨e, ?_, q2⟩
      by_cases hj : p.1 = i
      · rw [hj, List.getElem?_set_self hi] at q1; cases q1
      · rw [List.getElem?_set_ne (Ne.symm hj)] at q1 ⊢; exact q1
end
end DL

set_option Elab.async false
set_option linter.all false
set_option autoImplicit false
set_option maxRecDepth 100000
set_option maxHeartbeats 4000000
namespace DL
open PySem PySem.Spec PyProof.Rows L2

/-! ### readings by functions of plain data -/
def tE (K : PySem.W.Frag) (f : DSt → Option D) : TE := fun σ H Q => ∃ Γ B ds d, Hold K Γ B H σ ds ∧ f ds = some d ∧
  ∀ B' H' v, Same B B' → Hold K Γ B' H' σ ds → Rp K B' v d → Q v H'
def tT (K : PySem.W.Frag) (f : DSt → Option Bool) : TT := fun σ H Q => ∃ Γ B ds d, Hold K Γ B H σ ds ∧ f ds = some d ∧
  ∀ B' H', Same B B' → Hold K Γ B' H' σ ds → Q d H'
def tEs (K : PySem.W.Frag) (f : DSt → Option (List D)) : TA := fun σ H Q => ∃ Γ B ds d, Hold K Γ B H σ ds ∧ f ds = some d ∧
  ∀ B' H' vs, Same B B' → Hold K Γ B' H' σ ds → RpAll K B' vs d → Q vs H'
/-- a new list or dict, not frozen -/
def tF (K : PySem.W.Frag) (f : DSt → Option D) : TE := fun σ H Q => ∃ Γ B ds d, Hold K Γ B H σ ds ∧ f ds = some d ∧
  ∀ B' H' a, Same B B' → Hold K Γ B' H' σ ds → NewOwn K Γ B' H' σ ds a d → Q (.ref a) H'
def PED (X : Cx) (e : Expr) (f : DSt → Option D) : Prop := PE X e (tE X.K f)
def PFD (X : Cx) (e : Expr) (f : DSt → Option D) : Prop := PE X e (tF X.K f)
def PTD (X : Cx) (e : Expr) (f : DSt → Option Bool) : Prop := PT X e (tT X.K f)
def PAD (X : Cx) (es : List Expr) (f : DSt → Option (List D)) : Prop := PA X es (tEs X.K f)

theorem peM {X : Cx} {e : Expr} {t t' : TE} (h : PE X e t) (i : ∀ σ H Q, t' σ H Q → t σ H Q) : PE X e t' := ⟨fun pins s σ H Q I hw => h.run pins s σ H Q I (i σ H Q hw)⟩
theorem ptM {X : Cx} {e : Expr} {t t' : TT} (h : PT X e t) (i : ∀ σ H Q, t' σ H Q → t σ H Q) : PT X e t' := ⟨fun pins s σ H Q I hw => h.run pins s σ H Q I (i σ H Q hw)⟩
theorem paM {X : Cx} {es : List Expr} {t t' : TA} (h : PA X es t) (i : ∀ σ H Q, t' σ H Q → t σ H Q) : PA X es t' := ⟨fun pos pins s σ H Q I hw => h.run pos pins s σ H Q I (i σ H Q hw)⟩
theorem psM {X : Cx} {st : Stmt} {t t' : TS} (h : PS X st t) (i : ∀ D σ H, t' D σ H → t D σ H) : PS X st t' := ⟨fun pins s σ H D I hw => h.run pins s σ H D I (i D σ H hw)⟩
theorem pssM {X : Cx} {st : List Stmt} {t t' : TS} (h : PSs X st t) (i : ∀ D σ H, t' D σ H → t D σ H) : PSs X st t' := ⟨fun pins s σ H D I hw => h.run pins s σ H D I (i D σ H hw)⟩

/-- what is wanted of a value that stands for d -/
def Wn (K : PySem.W.Frag) (Γ : Ent) (B : Hp) (σ : L2.St) (ds : DSt) (d : D) (Q : VK) : Prop := ∀ B' H' v, Same B B' → Hold K Γ B' H' σ ds → Rp K B' v d → Q v H'

/-! ### names, constants -/
@[simp] def vE (i : Nat) : DSt → Option D := fun s => match s[i]? with
  | some (some (.val d)) => some d
  | _ => none
@[simp] def cE (d : D) : DSt → Option D := fun _ => some d
theorem vE_some {i : Nat} {s : DSt} {d : D} (h : vE i s = some d) : s[i]? = some (some (.val d)) := by
  unfold vE at h
  split at h
  · rename_i e; rw [e]; cases h; rfl
  · cases h

section
variable {X : Cx} {e a b : Expr} {fa fb : DSt → Option D} {pos : Pos}
theorem d_name {i : Nat} {x : Str} {p : Pos} (h : PE X (.Name x p) (tVar i)) : PED X (.Name x p) (vE i) := by
  refine peM h fun σ H Q q => ?_
  obtain ⟨Γ, B, ds, d, hH, e1, k⟩ := q
  obtain ⟨v, e2, r⟩ := hH.val i d (vE_some e1)
  exact ⟨v, e2, k B H v (Same.refl B) hH r⟩
theorem d_const {d : D} {v : V} (h : PE X e (tC v)) (r : ∀ B, Rp X.K B v d) : PED X e (cE d) := by
  refine peM h fun σ H Q q => ?_
  obtain ⟨Γ, B, ds, d', hH, e1, k⟩ := q
  cases e1
  exact k B H v (Same.refl B) hH (r B)
theorem d_int {i j pos} : PED X (.Constant (.int i) j pos) (cE (.int i)) := d_const pe_int fun _ => .int i
theorem d_bl {i j pos} : PED X (.Constant (.bool i) j pos) (cE (.bool i)) := d_const pe_bl fun _ => .bl i
theorem d_non {j pos} : PED X (.Constant .none j pos) (cE .none) := d_const pe_non fun _ => .non
theorem d_str {i j pos} (h : sOk i = true := by decide +kernel) : PED X (.Constant (.str i) j pos) (cE (.str i)) := d_const pe_str fun _ => .str i h
/-- a new object as a value -/
theorem d_frz {f : DSt → Option D} (h : PFD X e f) : PED X e f := by
  refine peM h fun σ H Q q => ?_
  obtain ⟨Γ, B, ds, d, hH, e1, k⟩ := q
  refine ⟨Γ, B, ds, d, hH, e1, fun B' H' a s h' w => ?_⟩
  obtain ⟨B2, s2, h2, r2⟩ := w.freeze h'
  exact k B2 H' _ (s.trans s2) h2 r2

/-! ### two operands -/
def OpD (K : PySem.W.Frag) (r : R2) (g : D → D → Option D) : Prop := ∀ Γ B H σ ds v u x y d Q, Hold K Γ B H σ ds → Rp K B v x → Rp K B u y → g x y = some d → Wn K Γ B σ ds d Q → r v u H Q
def OpF (K : PySem.W.Frag) (r : R2) (g : D → D → Option D) : Prop := ∀ Γ B H σ ds v u x y d (Q : VK), Hold K Γ B H σ ds → Rp K B v x → Rp K B u y → g x y = some d →
  (∀ B' H' a, Same B B' → Hold K Γ B' H' σ ds → NewOwn K Γ B' H' σ ds a d → Q (.ref a) H') → r v u H Q
@[simp] def e2 (g : D → D → Option D) (fa fb : DSt → Option D) : DSt → Option D := fun s => (fa s).bind fun x => (fb s).bind fun y => g x y
@[simp] def e1 (g : D → Option D) (fa : DSt → Option D) : DSt → Option D := fun s => (fa s).bind g
theorem e2_some {g : D → D → Option D} {s : DSt} {d : D} (h : e2 g fa fb s = some d) : ∃ x y, fa s = some x ∧ fb s = some y ∧ g x y = some d := by
  unfold e2 at h
  obtain ⟨x, h1, h2⟩ := Option.bind_eq_some_iff.mp h
  obtain ⟨y, h3, h4⟩ := Option.bind_eq_some_iff.mp h2
  exact ⟨x, y, h1, h3, h4⟩
theorem op2 {r : R2} {g : D → D → Option D} (hr : OpD X.K r g) (ha : PED X a fa) (hb : PED X b fb) (h : PE X e (tOp r (tE X.K fa) (tE X.K fb))) : PED X e (e2 g fa fb) := by
  refine peM h fun σ H Q q => ?_
  obtain ⟨Γ, B, ds, d, hH, e, k⟩ := q
  obtain ⟨x, y, h1, h2, h3⟩ := e2_some e
  refine ⟨Γ, B, ds, x, hH, h1, fun B1 H1 v s1 hH1 r1 => ⟨Γ, B1, ds, y, hH1, h2, fun B2 H2 u s2 hH2 r2 => ?_⟩⟩
  exact hr Γ B2 H2 σ ds v u x y d Q hH2 (r1.mono s2) r2 h3 fun B3 H3 w s3 hH3 r3 => k B3 H3 w ((s1.trans s2).trans s3) hH3 r3
theorem op2f {r : R2} {g : D → D → Option D} (hr : OpF X.K r g) (ha : PED X a fa) (hb : PED X b fb) (h : PE X e (tOp r (tE X.K fa) (tE X.K fb))) : PFD X e (e2 g fa fb) := by
  refine peM h fun σ H Q q => ?_
  obtain ⟨Γ, B, ds, d, hH, e, k⟩ := q
  obtain ⟨x, y, h1, h2, h3⟩ := e2_some e
  refine ⟨Γ, B, ds, x, hH, h1, fun B1 H1 v s1 hH1 r1 => ⟨Γ, B1, ds, y, hH1, h2, fun B2 H2 u s2 hH2 r2 => ?_⟩⟩
  exact hr Γ B2 H2 σ ds v u x y d Q hH2 (r1.mono s2) r2 h3 fun B3 H3 w s3 hH3 r3 => k B3 H3 w ((s1.trans s2).trans s3) hH3 r3
theorem d_bin {op : Operator} {r : R2} {g : D → D → Option D} (ho : OpR X (binaryOp op) r) (hr : OpD X.K r g) (ha : PED X a fa) (hb : PED X b fb) : PED X (.BinOp a op b pos) (e2 g fa fb) := op2 hr ha hb (pe_op ho ha hb)
theorem d_binF {op : Operator} {r : R2} {g : D → D → Option D} (ho : OpR X (binaryOp op) r) (hr : OpF X.K r g) (ha : PED X a fa) (hb : PED X b fb) : PFD X (.BinOp a op b pos) (e2 g fa fb) := op2f hr ha hb (pe_op ho ha hb)
theorem d_cmp {op : CmpOp} {r : R2} {g : D → D → Option D} (ho : OpR X (compareOp op) r) (hr : OpD X.K r g) (ha : PED X a fa) (hb : PED X b fb) (hm : behindInMarks op b = false) : PED X (.Compare a [op] [b] pos) (e2 g fa fb) := op2 hr ha hb (pe_cmpR ho ha hb hm)

/-! ### arithmetic, +, * -/
@[simp] def dAdd : D → D → Option D
  | .int i, .int j => some (.int (i + j))
  | .str x, .str y => if x.length + y.length ≤ sizeLine then some (.str (x ++ y)) else none
  | .list xs, .list ys => if xs.length + ys.length ≤ sizeLine then some (.list (xs ++ ys)) else none
  | .tuple xs, .tuple ys => if xs ≠ [] ∧ xs.length + ys.length ≤ sizeLine then some (.tuple (xs ++ ys)) else none
  | _, _ => none
def rCatR (K : PySem.W.Frag) : R2 := fun x y H Q => ∃ l b xs zs, x = .ref l ∧ y = .ref b ∧ SqL K H l xs ∧ SqL K H b zs ∧ xs.length + zs.length ≤ sizeLine ∧ ∀ p, H p = none → Q (.ref p) (upd H p (.lst (xs ++ zs)))
theorem op_catR : OpR X (binaryOp .Add) (rCatR X.K) := by
  intro pins s σ H x y v u Q I rx ry h
  obtain ⟨l, b, xs, zs, rfl, rfl, hH, hB, hz, q⟩ := h
  cases rx
  cases ry
  obtain ⟨its, r, ⟨⟨cls, dd, data, sl⟩, n, ho, hc, _, hd⟩, _⟩ := I.list hH
  obtain ⟨its2, r2, ⟨⟨cls2, dd2, data2, sl2⟩, n2, ho2, hc2, _, hd2⟩, _⟩ := I.list hB
  have hl := r.length
  have hl2 := r2.length
  simp only at hc hd hc2 hd2
  subst hc hd hc2 hd2
  have ea : its.toArray ++ its2.toArray = (its ++ its2).toArray := by simp
  refine concat_meets ⟨_, ho, rfl⟩ ⟨_, ho2, rfl⟩ noFill_list_add seq_list_add PySem.F.slot_list_add PySem.F.entry_list_add (PySem.F.args_list_add_2 _ _) (list_addW l b its.toArray its2.toArray n n2 dd dd2 sl sl2 (by simp; omega)) ⟨ho, ho2, ?_⟩
  rw [ea]
  exact ⟨.ref _, _, I.lnew (t' := s.toks) (r.append r2) (by rw [List.length_append]; omega), rfl, q _ I.fresh⟩
def rAddD (K : PySem.W.Frag) : R2 := fun x y H Q => rI0 (fun i j => .int (i + j)) x y H Q ∨ (∃ i j, x = .str i ∧ y = .str j ∧ i.length + j.length ≤ sizeLine ∧ Q (.str (i ++ j)) H) ∨ rCatR K x y H Q ∨ rCatT K x y H Q
theorem op_addD : OpR X (binaryOp .Add) (rAddD X.K) := op_add.or (op_add_str.or (op_catR.or op_catT))
theorem sOk_app {x y : Str} (hl : x.length + y.length ≤ sizeLine) (h1 : sOk x = true) (h2 : sOk y = true) : sOk (x ++ y) = true := by
  refine sOk_mk ?_ ?_
  · show (x.cps ++ y.cps).size ≤ _
    rw [Array.size_append]
    exact hl
  · show (x.cps ++ y.cps).all _ = true
    rw [Array.all_append, Bool.and_eq_true]
    exact ⟨sOk_ok h1, sOk_ok h2⟩
theorem Rp.unlst {K : PySem.W.Frag} {B : Hp} {v : V} {ds : List D} (r : Rp K B v (.list ds)) : ∃ a xs, v = .ref a ∧ SqL K B a xs ∧ RpAll K B xs ds := by
  cases r with
  | lst h t => exact ⟨_, _, rfl, h, t⟩
theorem Rp.untup {K : PySem.W.Frag} {B : Hp} {v : V} {ds : List D} (r : Rp K B v (.tuple ds)) : ∃ a xs, v = .ref a ∧ SqT K B a xs ∧ RpAll K B xs ds := by
  cases r with
  | tup h t => exact ⟨_, _, rfl, h, t⟩
theorem Rp.undic {K : PySem.W.Frag} {B : Hp} {v : V} {ps : List (D × D)} (r : Rp K B v (.dict ps)) : ∃ a kvs, v = .ref a ∧ B a = some (.dK kvs) ∧ RpKv K B kvs ps := by
  cases r with
  | dic h t => exact ⟨_, _, rfl, h, t⟩
section
variable {K : PySem.W.Frag} {Γ : Ent} {B H : Hp} {σ : L2.St} {ds : DSt}
/-- a new tuple -/
theorem Wn.tup {Q : VK} {xs : List V} {es : List D} (hH : Hold K Γ B H σ ds) (r : RpAll K B xs es) (k : Wn K Γ B σ ds (.tuple es) Q) : ∀ p, H p = none → Q (.ref p) (upd H p (.tup xs)) := fun p n =>
  k _ _ _ (same_updB (hH.bnone n)) (hH.new n) (.tup (.inl (.inl upd_same)) (r.mono (same_updB (hH.bnone n))))
theorem Wn.lst {Q : VK} {xs : List V} {es : List D} (hH : Hold K Γ B H σ ds) (r : RpAll K B xs es) (k : Wn K Γ B σ ds (.list es) Q) : ∀ p, H p = none → Q (.ref p) (upd H p (.lst xs)) := fun p n =>
  k _ _ _ (same_updB (hH.bnone n)) (hH.new n) (.lst (.inl (.inl upd_same)) (r.mono (same_updB (hH.bnone n))))
theorem Wn.lstF {Q : VK} {xs : List V} {es : List D} (hH : Hold K Γ B H σ ds) (r : RpAll K B xs es) (k : ∀ B' H' a, Same B B' → Hold K Γ B' H' σ ds → NewOwn K Γ B' H' σ ds a (.list es) → Q (.ref a) H') : ∀ p, H p = none → Q (.ref p) (upd H p (.lst xs)) := fun p n =>
  have w := hH.newOwn (o := .lst xs) (d := .list es) n ⟨xs, upd_same, r⟩
  k B _ p (Same.refl B) w.1 w.2
end
theorem dAdd_ok {K : PySem.W.Frag} : OpD K (rAddD K) dAdd := by
  intro Γ B H σ ds v u x y d Q hH r1 r2 h k
  unfold dAdd at h
  split at h
  · cases h; cases r1; cases r2
    exact .inl ⟨_, _, rfl, rfl, k B H _ (Same.refl B) hH (.int _)⟩
  · split at h
    · rename_i hl
      cases h; cases r1 with | str _ h1 => cases r2 with | str _ h2 =>
      exact .inr (.inl ⟨_, _, rfl, rfl, hl, k B H _ (Same.refl B) hH (.str _ (sOk_app hl h1 h2))⟩)
    · cases h
  · split at h
    · rename_i hl
      cases h
      obtain ⟨a1, x1, rfl, q1, t1⟩ := r1.unlst
      obtain ⟨a2, x2, rfl, q2, t2⟩ := r2.unlst
      exact .inr (.inr (.inl ⟨_, _, _, _, rfl, rfl, hH.bh.seq q1, hH.bh.seq q2, by rw [t1.length, t2.length]; exact hl, Wn.lst hH (t1.append t2) k⟩))
    · cases h
  · split at h
    · rename_i hl
      cases h
      obtain ⟨a1, x1, rfl, q1, t1⟩ := r1.untup
      obtain ⟨a2, x2, rfl, q2, t2⟩ := r2.untup
      refine .inr (.inr (.inr ⟨_, _, _, _, rfl, rfl, sameT hH.bh q1, sameT hH.bh q2, fun z => hl.1 ?_, by rw [t1.length, t2.length]; exact hl.2, fun z => ?_, fun _ => Wn.tup hH (t1.append t2) k⟩))
      · have := t1.length
        rw [z] at this
        exact List.length_eq_zero_iff.mp this.symm
      · have := t2.length
        rw [z] at this
        have e : _ = [] := List.length_eq_zero_iff.mp this.symm
        subst e
        rw [List.append_nil] at k
        exact k B H _ (Same.refl B) hH (.tup q1 t1)
    · cases h
  · cases h
theorem d_add (ha : PED X a fa) (hb : PED X b fb) : PED X (.BinOp a .Add b pos) (e2 dAdd fa fb) := d_bin op_addD dAdd_ok ha hb
@[simp] def dAddL : D → D → Option D
  | .list xs, .list ys => if xs.length + ys.length ≤ sizeLine then some (.list (xs ++ ys)) else none
  | _, _ => none
theorem dAddL_ok {K : PySem.W.Frag} : OpF K (rCatR K) dAddL := by
  intro Γ B H σ ds v u x y d Q hH r1 r2 h k
  unfold dAddL at h
  split at h
  · split at h
    · rename_i hl
      cases h
      obtain ⟨a1, x1, rfl, q1, t1⟩ := r1.unlst
      obtain ⟨a2, x2, rfl, q2, t2⟩ := r2.unlst
      exact ⟨_, _, _, _, rfl, rfl, hH.bh.seq q1, hH.bh.seq q2, by rw [t1.length, t2.length]; exact hl, Wn.lstF hH (t1.append t2) k⟩
    · cases h
  · cases h
theorem f_add (ha : PED X a fa) (hb : PED X b fb) : PFD X (.BinOp a .Add b pos) (e2 dAddL fa fb) := d_binF op_catR dAddL_ok ha hb

@[simp] def dSub : D → D → Option D
  | .int i, .int j => some (.int (i - j))
  | _, _ => none
theorem dSub_ok {K : PySem.W.Frag} : OpD K (rI0 fun i j => .int (i - j)) dSub := by
  intro Γ B H σ ds v u x y d Q hH r1 r2 h k
  unfold dSub at h
  split at h
  · cases h; cases r1; cases r2
    exact ⟨_, _, rfl, rfl, k B H _ (Same.refl B) hH (.int _)⟩
  · cases h
theorem d_sub (ha : PED X a fa) (hb : PED X b fb) : PED X (.BinOp a .Sub b pos) (e2 dSub fa fb) := d_bin op_sub dSub_ok ha hb
/-- products of ints: bits together below 2^27 -/
def mulFits (i j : Int) : Bool := decide (i.natAbs.log2 + j.natAbs.log2 + 2 ≤ 134217728)
@[simp] def dMul : D → D → Option D
  | .int i, .int j => if mulFits i j = true then some (.int (i * j)) else none
  | _, _ => none
theorem mulFits_ok {i j : Int} (h : mulFits i j = true) : IntMulOk i j := by
  have h' := of_decide_eq_true h
  have hb : ∀ k : Int, Builtin.Int.intBits k ≤ k.natAbs.log2 + 1 := fun k => by
    unfold Builtin.Int.intBits
    split <;> omega
  exact IntMulOk.of_le (hb i) (hb j) (by omega)
theorem op_mulD : OpR X (binaryOp .Mult) (rI (fun i j => mulFits i j = true) fun i j => .int (i * j)) := opI fun _ _ _ _ _ _ _ hc q => mul_int q (mulFits_ok hc)
theorem dMul_ok {K : PySem.W.Frag} : OpD K (rI (fun i j => mulFits i j = true) fun i j => .int (i * j)) dMul := by
  intro Γ B H σ ds v u x y d Q hH r1 r2 h k
  unfold dMul at h
  split at h
  · split at h
    · rename_i hl
      cases h; cases r1; cases r2
      exact ⟨_, _, rfl, rfl, hl, k B H _ (Same.refl B) hH (.int _)⟩
    · cases h
  · cases h
theorem d_mul (ha : PED X a fa) (hb : PED X b fb) : PED X (.BinOp a .Mult b pos) (e2 dMul fa fb) := d_bin op_mulD dMul_ok ha hb
@[simp] def dFdiv : D → D → Option D
  | .int i, .int j => if 0 < j ∧ j < 1073741824 then some (.int (i / j)) else none
  | _, _ => none
theorem dFdiv_ok {K : PySem.W.Frag} : OpD K (rI CDiv fun i j => .int (i / j)) dFdiv := by
  intro Γ B H σ ds v u x y d Q hH r1 r2 h k
  unfold dFdiv at h
  split at h
  · split at h
    · rename_i hl
      cases h; cases r1; cases r2
      exact ⟨_, _, rfl, rfl, hl, k B H _ (Same.refl B) hH (.int _)⟩
    · cases h
  · cases h
theorem d_fdiv (ha : PED X a fa) (hb : PED X b fb) : PED X (.BinOp a .FloorDiv b pos) (e2 dFdiv fa fb) := d_bin op_fdiv dFdiv_ok ha hb
@[simp] def dMod : D → D → Option D
  | .int i, .int j => if 0 < j then some (.int (i % j)) else none
  | _, _ => none
theorem dMod_ok {K : PySem.W.Frag} : OpD K (rI (fun _ j => 0 < j) fun i j => .int (i % j)) dMod := by
  intro Γ B H σ ds v u x y d Q hH r1 r2 h k
  unfold dMod at h
  split at h
  · split at h
    · rename_i hl
      cases h; cases r1; cases r2
      exact ⟨_, _, rfl, rfl, hl, k B H _ (Same.refl B) hH (.int _)⟩
    · cases h
  · cases h
theorem d_mod (ha : PED X a fa) (hb : PED X b fb) : PED X (.BinOp a .Mod b pos) (e2 dMod fa fb) := d_bin op_mod dMod_ok ha hb
@[simp] def dPow : D → D → Option D
  | .int i, .int j => if 0 ≤ j ∧ j ≤ 1000000 ∧ i.natAbs < 2 ^ 64 then some (.int (i ^ j.toNat)) else none
  | _, _ => none
theorem dPow_ok {K : PySem.W.Frag} : OpD K (rI CPow fun i j => .int (i ^ j.toNat)) dPow := by
  intro Γ B H σ ds v u x y d Q hH r1 r2 h k
  unfold dPow at h
  split at h
  · split at h
    · rename_i hl
      cases h; cases r1; cases r2
      exact ⟨_, _, rfl, rfl, hl, k B H _ (Same.refl B) hH (.int _)⟩
    · cases h
  · cases h
theorem d_pow (ha : PED X a fa) (hb : PED X b fb) : PED X (.BinOp a .Pow b pos) (e2 dPow fa fb) := d_bin op_pow dPow_ok ha hb
@[simp] def dNeg : D → Option D
  | .int i => some (.int (-i))
  | _ => none
theorem e1_some {g : D → Option D} {s : DSt} {d : D} (h : e1 g fa s = some d) : ∃ x, fa s = some x ∧ g x = some d := Option.bind_eq_some_iff.mp h
theorem d_neg (ha : PED X a fa) : PED X (.UnaryOp .USub a pos) (e1 dNeg fa) := by
  refine peM (pe_un un_neg ha) fun σ H Q q => ?_
  obtain ⟨Γ, B, ds, d, hH, e, k⟩ := q
  obtain ⟨x, h1, h2⟩ := e1_some e
  refine ⟨Γ, B, ds, x, hH, h1, fun B1 H1 v s1 hH1 r1 => ?_⟩
  unfold dNeg at h2
  split at h2
  · cases h2; cases r1
    exact ⟨_, rfl, k B1 H1 _ s1 hH1 (.int _)⟩
  · cases h2
end
end DL

set_option Elab.async false
set_option linter.all false
set_option autoImplicit false
set_option maxRecDepth 100000
set_option maxHeartbeats 4000000
namespace DL
open PySem PySem.Spec PyProof.Rows L2

/-! ### data without dicts, not too deep: what == reads -/
mutual
@[simp] def noDict : D → Bool
  | .none | .bool _ | .int _ | .str _ => true
  | .list xs | .tuple xs => noDictAll xs
  | .dict _ => false
@[simp] def noDictAll : List D → Bool
  | [] => true
  | x :: xs => noDict x && noDictAll xs
end
@[simp] def lay (d : D) : Bool := noDict d && decide (PyData.depth d ≤ 64)
mutual
theorem Rp.lay {K : PySem.W.Frag} {B : Hp} : ∀ (d : D) (v : V), Rp K B v d → noDict d = true → d.canLay0 = true ∧ Dp K B v d
  | .none, _, .non, _ => ⟨rfl, .non⟩
  | .bool b, _, .bl _, _ => ⟨rfl, .bl b⟩
  | .int i, _, .int _, _ => ⟨rfl, .int i⟩
  | .str x, _, .str _ h, _ => ⟨by simp only [PyData.canLay0]; exact sOk_ok h, .str x⟩
  | .list xs, _, .lst h r, n => by
    simp only [noDict] at n
    obtain ⟨q1, q2⟩ := RpAll.lay xs _ r n
    exact ⟨by simp only [PyData.canLay0]; exact q1, .lst h q2⟩
  | .tuple xs, _, .tup h r, n => by
    simp only [noDict] at n
    obtain ⟨q1, q2⟩ := RpAll.lay xs _ r n
    exact ⟨by simp only [PyData.canLay0]; exact q1, .tup h q2⟩
  | .dict _, _, _, n => by simp [noDict] at n
theorem RpAll.lay {K : PySem.W.Frag} {B : Hp} : ∀ (ds : List D) (vs : List V), RpAll K B vs ds → noDictAll ds = true → PyData.canLayAll0 ds = true ∧ DpAll K B vs ds
  | [], _, .nil, _ => ⟨by simp [PyData.canLayAll0], .nil⟩
  | d :: ds, _, .cons r t, n => by
    simp only [noDictAll, Bool.and_eq_true] at n
    obtain ⟨q1, q2⟩ := Rp.lay d _ r n.1
    obtain ⟨q3, q4⟩ := RpAll.lay ds _ t n.2
    exact ⟨by simp [PyData.canLayAll0, q1, q3], .cons q2 q4⟩
end
theorem shaped_of {K : PySem.W.Frag} {B : Hp} {d : D} {v : V} (r : Rp K B v d) (h : lay d = true) : SeqAt.shaped d = true ∧ Dp K B v d := by
  obtain ⟨h1, h2⟩ := Bool.and_eq_true_iff.mp h
  obtain ⟨q1, q2⟩ := Rp.lay d v r h1
  exact ⟨Bool.and_eq_true_iff.mpr ⟨q1, h2⟩, q2⟩
mutual
theorem Dp.mono {K : PySem.W.Frag} {H H' : Hp} (e : Same H H') : ∀ {v : V} {d : D}, Dp K H v d → Dp K H' v d
  | _, _, .non => .non
  | _, _, .bl b => .bl b
  | _, _, .int i => .int i
  | _, _, .str x => .str x
  | _, _, .lst h r => .lst (e.seq h) (DpAll.mono e r)
  | _, _, .tup h r => .tup (sameT e h) (DpAll.mono e r)
theorem DpAll.mono {K : PySem.W.Frag} {H H' : Hp} (e : Same H H') : ∀ {v : List V} {d : List D}, DpAll K H v d → DpAll K H' v d
  | _, _, .nil => .nil
  | _, _, .cons r t => .cons (Dp.mono e r) (DpAll.mono e t)
end
/-- == -/
@[simp] def dEq (x y : D) : Option Bool := if lay x && lay y then some (PyData.eqv x y) else none
@[simp] def dEqD (x y : D) : Option D := (dEq x y).map .bool
@[simp] def dNeD (x y : D) : Option D := (dEq x y).map fun b => .bool !b
section
variable {K : PySem.W.Frag}
theorem dEq_ok : OpD K (rEqD K) dEqD := by
  intro Γ B H σ ds v u x y d Q hH r1 r2 h k
  unfold dEqD dEq at h
  split at h
  · rename_i hl
    obtain ⟨l1, l2⟩ := Bool.and_eq_true_iff.mp hl
    cases h
    obtain ⟨s1, p1⟩ := shaped_of (r1.mono hH.bh) l1
    obtain ⟨s2, p2⟩ := shaped_of (r2.mono hH.bh) l2
    exact ⟨x, y, p1, p2, s1, s2, k B H _ (Same.refl B) hH (.bl _)⟩
  · cases h
theorem dNe_ok : OpD K (rNeD K) dNeD := by
  intro Γ B H σ ds v u x y d Q hH r1 r2 h k
  unfold dNeD dEq at h
  split at h
  · rename_i hl
    obtain ⟨l1, l2⟩ := Bool.and_eq_true_iff.mp hl
    cases h
    obtain ⟨s1, p1⟩ := shaped_of (r1.mono hH.bh) l1
    obtain ⟨s2, p2⟩ := shaped_of (r2.mono hH.bh) l2
    exact ⟨x, y, p1, p2, s1, s2, k B H _ (Same.refl B) hH (.bl _)⟩
  · cases h
end
/-- order of ints, of texts -/
@[simp] def dLt : D → D → Option Bool
  | .int i, .int j => some (decide (i < j))
  | .str x, .str y => some (decide (x.cps.toList < y.cps.toList))
  | _, _ => none
@[simp] def dLtD (x y : D) : Option D := (dLt x y).map .bool
@[simp] def dGtD (x y : D) : Option D := (dLt y x).map .bool
@[simp] def dLeD (x y : D) : Option D := (dLt y x).map fun b => .bool !b
@[simp] def dGeD (x y : D) : Option D := (dLt x y).map fun b => .bool !b
def rOrd (p : Int → Int → Bool) (q : Str → Str → Bool) : R2 := fun x y H Q => rI0 (fun i j => .bl (p i j)) x y H Q ∨ ∃ i j, x = .str i ∧ y = .str j ∧ Q (.bl (q i j)) H
theorem ord_ok {K : PySem.W.Frag} {p : Int → Int → Bool} {q : Str → Str → Bool} {g : D → D → Option D} (h1 : ∀ i j, g (.int i) (.int j) = some (.bool (p i j))) (h2 : ∀ i j, g (.str i) (.str j) = some (.bool (q i j)))
    (h3 : ∀ x y d, g x y = some d → (∃ i j, x = .int i ∧ y = .int j) ∨ ∃ i j, x = .str i ∧ y = .str j) : OpD K (rOrd p q) g := by
  intro Γ B H σ ds v u x y d Q hH r1 r2 h k
  rcases h3 _ _ _ h with ⟨i, j, rfl, rfl⟩ | ⟨i, j, rfl, rfl⟩
  · rw [h1] at h; cases h; cases r1; cases r2
    exact .inl ⟨_, _, rfl, rfl, k B H _ (Same.refl B) hH (.bl _)⟩
  · rw [h2] at h; cases h; cases r1; cases r2
    exact .inr ⟨_, _, rfl, rfl, k B H _ (Same.refl B) hH (.bl _)⟩
theorem dLt_kinds {x y : D} {b : Bool} (h : dLt x y = some b) : (∃ i j, x = .int i ∧ y = .int j) ∨ ∃ i j, x = .str i ∧ y = .str j := by
  unfold dLt at h
  split at h
  · exact .inl ⟨_, _, rfl, rfl⟩
  · exact .inr ⟨_, _, rfl, rfl⟩
  · cases h
section
variable {X : Cx} {e a b c : Expr} {fa fb fc : DSt → Option D} {pos : Pos}
theorem opLtD : OpR X (compareOp .Lt) (rOrd (fun i j => decide (i < j)) fun i j => decide (i.cps.toList < j.cps.toList)) := op_lt.or op_lt_str
theorem opGtD : OpR X (compareOp .Gt) (rOrd (fun i j => decide (j < i)) fun i j => decide (j.cps.toList < i.cps.toList)) := op_gt.or op_gt_str
theorem opLeD : OpR X (compareOp .LtE) (rOrd (fun i j => decide (i ≤ j)) fun i j => !decide (j.cps.toList < i.cps.toList)) := op_le.or op_le_str
theorem opGeD : OpR X (compareOp .GtE) (rOrd (fun i j => decide (j ≤ i)) fun i j => !decide (i.cps.toList < j.cps.toList)) := op_ge.or op_ge_str
theorem not_lt_dec (i j : Int) : (!decide (j < i)) = decide (i ≤ j) := by
  by_cases h : j < i
  · rw [decide_eq_true h, decide_eq_false (by omega : ¬ i ≤ j)]; rfl
  · rw [decide_eq_false h, decide_eq_true (by omega : i ≤ j)]; rfl
theorem dLt_ok {K : PySem.W.Frag} : OpD K (rOrd (fun i j => decide (i < j)) fun i j => decide (i.cps.toList < j.cps.toList)) dLtD := ord_ok (fun _ _ => rfl) (fun _ _ => rfl) fun x y d h => by
  obtain ⟨b, h, _⟩ := Option.map_eq_some_iff.mp h
  exact dLt_kinds h
theorem dGt_ok {K : PySem.W.Frag} : OpD K (rOrd (fun i j => decide (j < i)) fun i j => decide (j.cps.toList < i.cps.toList)) dGtD := ord_ok (fun _ _ => rfl) (fun _ _ => rfl) fun x y d h => by
  obtain ⟨b, h, _⟩ := Option.map_eq_some_iff.mp h
  rcases dLt_kinds h with ⟨i, j, rfl, rfl⟩ | ⟨i, j, rfl, rfl⟩
  · exact .inl ⟨_, _, rfl, rfl⟩
  · exact .inr ⟨_, _, rfl, rfl⟩
theorem dLe_ok {K : PySem.W.Frag} : OpD K (rOrd (fun i j => decide (i ≤ j)) fun i j => !decide (j.cps.toList < i.cps.toList)) dLeD := ord_ok (fun i j => by show some (PyData.bool (!decide (j < i))) = _; rw [not_lt_dec]) (fun _ _ => rfl) fun x y d h => by
  obtain ⟨b, h, _⟩ := Option.map_eq_some_iff.mp h
  rcases dLt_kinds h with ⟨i, j, rfl, rfl⟩ | ⟨i, j, rfl, rfl⟩
  · exact .inl ⟨_, _, rfl, rfl⟩
  · exact .inr ⟨_, _, rfl, rfl⟩
theorem dGe_ok {K : PySem.W.Frag} : OpD K (rOrd (fun i j => decide (j ≤ i)) fun i j => !decide (i.cps.toList < j.cps.toList)) dGeD := ord_ok (fun i j => by show some (PyData.bool (!decide (i < j))) = _; rw [not_lt_dec]) (fun _ _ => rfl) fun x y d h => by
  obtain ⟨b, h, _⟩ := Option.map_eq_some_iff.mp h
  exact dLt_kinds h
theorem d_eq (hu : X.A.units + 64 < cLine) (ha : PED X a fa) (hb : PED X b fb) : PED X (.Compare a [.Eq] [b] pos) (e2 dEqD fa fb) := d_cmp (op_eqD hu) dEq_ok ha hb (nomark _)
theorem d_ne (hu : X.A.units + 64 < cLine) (ha : PED X a fa) (hb : PED X b fb) : PED X (.Compare a [.NotEq] [b] pos) (e2 dNeD fa fb) := d_cmp (op_neD hu) dNe_ok ha hb (nomark _)
theorem d_lt (ha : PED X a fa) (hb : PED X b fb) : PED X (.Compare a [.Lt] [b] pos) (e2 dLtD fa fb) := d_cmp opLtD dLt_ok ha hb (nomark _)
theorem d_gt (ha : PED X a fa) (hb : PED X b fb) : PED X (.Compare a [.Gt] [b] pos) (e2 dGtD fa fb) := d_cmp opGtD dGt_ok ha hb (nomark _)
theorem d_le (ha : PED X a fa) (hb : PED X b fb) : PED X (.Compare a [.LtE] [b] pos) (e2 dLeD fa fb) := d_cmp opLeD dLe_ok ha hb (nomark _)
theorem d_ge (ha : PED X a fa) (hb : PED X b fb) : PED X (.Compare a [.GtE] [b] pos) (e2 dGeD fa fb) := d_cmp opGeD dGe_ok ha hb (nomark _)

/-! ### is None; in -/
def dIs : D → D → Option Bool
  | x, .none => some (match x with | .none => true | _ => false)
  | .bool a, .bool b => some (a == b)
  | .none, .bool _ => some false
  | _, _ => none
def dIsD (x y : D) : Option D := (dIs x y).map .bool
def dIsNotD (x y : D) : Option D := (dIs x y).map fun b => .bool !b
def rIsN : R2 := fun x y H Q => y = .non ∧ Q (.bl (decide (x = .non))) H
def rIsNot : R2 := fun x y H Q => y = .non ∧ Q (.bl (!decide (x = .non))) H
@[simp] def dIsN : D → D → Option D
  | .none, .none => some (.bool true)
  | _, .none => some (.bool false)
  | _, _ => none
@[simp] def dNotN : D → D → Option D
  | .none, .none => some (.bool false)
  | _, .none => some (.bool true)
  | _, _ => none
theorem dIsN_ok {K : PySem.W.Frag} : OpD K rIsN dIsN := by
  intro Γ B H σ ds v u x y d Q hH r1 r2 h k
  unfold dIsN at h
  split at h
  · cases h; cases r1; cases r2
    exact ⟨rfl, k B H _ (Same.refl B) hH (.bl _)⟩
  · rename_i hx
    cases h; cases r2
    have : decide (v = V.non) = false := by
      cases r1 <;> first | exact (hx rfl).elim | rfl
    refine ⟨rfl, ?_⟩
    rw [this]
    exact k B H _ (Same.refl B) hH (.bl _)
  · cases h
theorem dNotN_ok {K : PySem.W.Frag} : OpD K rIsNot dNotN := by
  intro Γ B H σ ds v u x y d Q hH r1 r2 h k
  unfold dNotN at h
  split at h
  · cases h; cases r1; cases r2
    exact ⟨rfl, k B H _ (Same.refl B) hH (.bl _)⟩
  · rename_i hx
    cases h; cases r2
    have : decide (v = V.non) = false := by
      cases r1 <;> first | exact (hx rfl).elim | rfl
    refine ⟨rfl, ?_⟩
    rw [this]
    exact k B H _ (Same.refl B) hH (.bl _)
  · cases h
theorem d_isN (ha : PED X a fa) (hb : PED X b fb) : PED X (.Compare a [.Is] [b] pos) (e2 dIsN fa fb) := d_cmp op_isN dIsN_ok ha hb (nomark _)
theorem d_notN (ha : PED X a fa) (hb : PED X b fb) : PED X (.Compare a [.IsNot] [b] pos) (e2 dNotN fa fb) := d_cmp op_notN dNotN_ok ha hb (nomark _)

@[simp] def flatD : D → Bool
  | .none | .bool _ | .int _ | .str _ => true
  | _ => false
def keyOf : D → Option Key
  | .int i => some (.inl i)
  | .str x => some (.inr x)
  | _ => none
def lookD (ps : List (D × D)) (k : Key) : Option D := (ps.find? fun p => decide (keyOf p.1 = some k)).map (·.2)
def strIn (x y : Str) : Bool := !(Builtin.Str.occurrences y x 0 y.length 1).isEmpty
/-- x in y -/
@[simp] def dIn : D → D → Option Bool
  | .str x, .str y => some (strIn x y)
  | x, .list ys => if flatD x && ys.all flatD then some (ys.any fun y => PyData.eqv y x) else if lay x && lay (.list ys) then some (ys.any fun y => PyData.eqv y x) else none
  | x, .tuple ys => if flatD x && ys.all flatD then some (ys.any fun y => PyData.eqv y x) else none
  | x, .dict ps => (keyOf x).map fun k => (lookD ps k).isSome
  | _, _ => none
@[simp] def dInD (x y : D) : Option D := (dIn x y).map .bool
@[simp] def dNotInD (x y : D) : Option D := (dIn x y).map fun b => .bool !b
def sg (neg b : Bool) : Bool := if neg then !b else b
def rInAll (K : PySem.W.Frag) (neg : Bool) : R2 := fun x y H Q => (∃ i j, x = .str i ∧ y = .str j ∧ Q (.bl (sg neg (strIn i j))) H) ∨
  (∃ p xs, y = .ref p ∧ (SqL K H p xs ∨ SqT K H p xs) ∧ flatV x = true ∧ xs.all flatV = true ∧ Q (.bl (if neg then !inV x xs else inV x xs)) H) ∨
  (∃ d ds, Dp K H x d ∧ Dp K H y (.list ds) ∧ SeqAt.shaped d = true ∧ SeqAt.shaped (.list ds) = true ∧ Q (.bl (sg neg (ds.any fun z => PyData.eqv z d))) H) ∨
  ∃ a o, y = .ref a ∧ DGet H a x o ∧ Q (.bl (sg neg o.isSome)) H
theorem op_in_dk (hu : X.A.units + 1 < cLine) : OpR X (compareOp .In) (fun x y H Q => ∃ a o, y = .ref a ∧ DGet H a x o ∧ Q (.bl (sg false o.isSome)) H) := by
  intro pins s σ H x y v u Q I rx ry h
  obtain ⟨a, o, rfl, g, q⟩ := h
  cases ry
  exact d_in hu I g rx fun s' I' => ⟨.bl _, H, I', rfl, q⟩
theorem op_notin_dk (hu : X.A.units + 1 < cLine) : OpR X (compareOp .NotIn) (fun x y H Q => ∃ a o, y = .ref a ∧ DGet H a x o ∧ Q (.bl (sg true o.isSome)) H) := by
  intro pins s σ H x y v u Q I rx ry h
  obtain ⟨a, o, rfl, g, q⟩ := h
  cases ry
  exact d_notIn hu I g rx fun s' I' => ⟨.bl _, H, I', rfl, q⟩
theorem op_inAll (hu : X.A.units + 65 < cLine) : OpR X (compareOp .In) (rInAll X.K false) := op_in_str.or (op_in_seq.or ((op_inD hu).or (op_in_dk (by omega))))
theorem op_notInAll (hu : X.A.units + 65 < cLine) : OpR X (compareOp .NotIn) (rInAll X.K true) := op_notin_str.or (op_notIn_seq.or ((op_notInD hu).or (op_notin_dk (by omega))))
theorem flat_V {K : PySem.W.Frag} {B : Hp} {v : V} {d : D} (r : Rp K B v d) (h : flatD d = true) : flatV v = true := by
  cases r <;> first | rfl | (simp [flatD] at h)
theorem flat_Vs {K : PySem.W.Frag} {B : Hp} : ∀ {vs : List V} {ds : List D}, RpAll K B vs ds → ds.all flatD = true → vs.all flatV = true
  | _, _, .nil, _ => rfl
  | _, _, .cons r t, h => by
    rw [List.all_cons, Bool.and_eq_true] at h
    rw [List.all_cons, flat_V r h.1, flat_Vs t h.2]; rfl
theorem eqV_eqv {K : PySem.W.Frag} {B : Hp} {v u : V} {d e : D} (r : Rp K B v d) (r' : Rp K B u e) (h : flatD d = true) (h' : flatD e = true) : eqV v u = PyData.eqv d e := by
  cases r <;> first
    | (cases r' <;> first | (simp [eqV, PyData.eqv]; done) | (simp [flatD] at h'; done))
    | (simp [flatD] at h; done)
theorem inV_any {K : PySem.W.Frag} {B : Hp} {v : V} {d : D} (r : Rp K B v d) (h : flatD d = true) : ∀ {vs : List V} {ds : List D}, RpAll K B vs ds → ds.all flatD = true → inV v vs = ds.any fun y => PyData.eqv y d
  | _, _, .nil, _ => rfl
  | _, _, .cons q t, hs => by
    rw [List.all_cons, Bool.and_eq_true] at hs
    have ih := inV_any r h t hs.2
    unfold inV at ih ⊢
    rw [List.any_cons, List.any_cons, ih, eqV_eqv q r hs.1 h]
theorem keyOf_V {K : PySem.W.Frag} {B : Hp} {v : V} {d : D} {k : Key} (r : Rp K B v d) (h : keyOf d = some k) : v = kV k := by
  cases r <;> first | (simp [keyOf] at h; subst h; rfl) | (simp [keyOf] at h; done)
theorem keyOf_keyD (k : Key) : keyOf (keyD k) = some k := by cases k <;> rfl
theorem lookD_val {K : PySem.W.Frag} {B : Hp} (k : Key) : ∀ {kvs : List (Key × V)} {ps : List (D × D)}, RpKv K B kvs ps → (valV kvs k = none ∧ lookD ps k = none) ∨ ∃ v d, valV kvs k = some v ∧ lookD ps k = some d ∧ Rp K B v d
  | _, _, .nil => .inl ⟨rfl, rfl⟩
  | _, _, .cons (k := k') (v := v) (vs := vs) (d := d) (ds := ds) r t => by
    by_cases e : k' = k
    · subst e
      exact .inr ⟨v, d, valV_pos rfl, by unfold lookD; rw [List.find?_cons]; simp [keyOf_keyD], r⟩
    · have e1 : valV ((k', v) :: vs) k = valV vs k := valV_neg e
      have e2 : lookD ((keyD k', d) :: ds) k = lookD ds k := by unfold lookD; rw [List.find?_cons]; simp [keyOf_keyD, e]
      rw [e1, e2]
      exact lookD_val k t
theorem lookD_isSome {K : PySem.W.Frag} {B : Hp} {k : Key} {kvs : List (Key × V)} {ps : List (D × D)} (r : RpKv K B kvs ps) : (valV kvs k).isSome = (lookD ps k).isSome := by
  rcases lookD_val k r with ⟨h1, h2⟩ | ⟨v, d, h1, h2, _⟩ <;> rw [h1, h2] <;> rfl
theorem dIn_all {K : PySem.W.Frag} (neg : Bool) : OpD K (rInAll K neg) fun x y => (dIn x y).map fun b => .bool (sg neg b) := by
  intro Γ B H σ ds v u x y d Q hH r1 r2 h k
  obtain ⟨b, hd, rfl⟩ := Option.map_eq_some_iff.mp (show (dIn x y).map (fun b => PyData.bool (sg neg b)) = some d from h)
  clear h
  have h := hd
  clear hd
  have fin : Q (.bl (sg neg b)) H := k B H _ (Same.refl B) hH (.bl _)
  have flat : ∀ {p : Addr} {xs : List V} {es : List D}, u = .ref p → (SqL K H p xs ∨ SqT K H p xs) → RpAll K B xs es → (flatD x && es.all flatD) = true → b = (es.any fun y => PyData.eqv y x) → rInAll K neg v u H Q := fun {p xs es} eu q t c eb => by
    obtain ⟨c1, c2⟩ := Bool.and_eq_true_iff.mp c
    refine .inr (.inl ⟨p, xs, eu, q, flat_V r1 c1, flat_Vs t c2, ?_⟩)
    rw [inV_any r1 c1 t c2, ← eb]
    exact fin
  unfold dIn at h
  split at h
  · cases h; cases r1; cases r2
    exact .inl ⟨_, _, rfl, rfl, fin⟩
  · obtain ⟨p, xs, eu, q, t⟩ := r2.unlst
    split at h
    · rename_i c
      cases h
      exact flat eu (.inl (hH.bh.seq q)) t c rfl
    · split at h
      · rename_i c
        obtain ⟨c1, c2⟩ := Bool.and_eq_true_iff.mp c
        cases h
        obtain ⟨s1, p1⟩ := shaped_of r1 c1
        obtain ⟨s2, p2⟩ := shaped_of r2 c2
        exact .inr (.inr (.inl ⟨_, _, Dp.mono hH.bh p1, Dp.mono hH.bh p2, s1, s2, fin⟩))
      · cases h
  · obtain ⟨p, xs, eu, q, t⟩ := r2.untup
    split at h
    · rename_i c
      cases h
      exact flat eu (.inr (sameT hH.bh q)) t c rfl
    · cases h
  · obtain ⟨k', hk, e⟩ := Option.map_eq_some_iff.mp h
    obtain ⟨p, kvs, eu, q, t⟩ := r2.undic
    subst eu
    refine .inr (.inr (.inr ⟨p, valV kvs k', rfl, ?_, ?_⟩))
    · rw [keyOf_V r1 hk]
      exact DGet.k (hH.bh _ _ q)
    · rw [lookD_isSome t, e]
      exact fin
  · cases h
theorem d_in (hu : X.A.units + 65 < cLine) (ha : PED X a fa) (hb : PED X b fb) (hm : behindInMarks .In b = false) : PED X (.Compare a [.In] [b] pos) (e2 dInD fa fb) := d_cmp (op_inAll hu) (dIn_all false) ha hb hm
theorem d_notIn (hu : X.A.units + 65 < cLine) (ha : PED X a fa) (hb : PED X b fb) (hm : behindInMarks .NotIn b = false) : PED X (.Compare a [.NotIn] [b] pos) (e2 dNotInD fa fb) := d_cmp (op_notInAll hu) (dIn_all true) ha hb hm

/-! ### truth -/
@[simp] def dTru : D → Bool
  | .none => false
  | .bool b => b
  | .int i => i != 0
  | .str x => (x.length : Int) != 0
  | .list xs | .tuple xs => !xs.isEmpty
  | .dict ps => !ps.isEmpty
theorem tru_V {K : PySem.W.Frag} {B H : Hp} {v : V} {d : D} (s : Same B H) (r : Rp K B v d) : TruV K v H (dTru d) := by
  cases r with
  | non => exact rfl
  | bl b => exact rfl
  | int i => exact rfl
  | str x h => exact ⟨sOk_len h, rfl⟩
  | lst h t => exact .inl ⟨_, s.seq h, by cases t <;> rfl⟩
  | tup h t => exact .inr (.inl ⟨_, sameT s h, by cases t <;> rfl⟩)
  | dic h t => exact .inr (.inr ⟨_, s _ _ h, by cases t <;> rfl⟩)
@[simp] def tr (f : DSt → Option D) : DSt → Option Bool := fun s => (f s).map dTru
/-- a test by its value's truth -/
theorem t_truth (ha : PED X a fa) (he : ∀ whole, isTrue a X.env whole = (do let v ← whole; standAt a.pos; holding [v] (truthy v)) := by intro _; rfl) : PTD X a (tr fa) := by
  refine ptM (pt_truth ha he) fun σ H Q q => ?_
  obtain ⟨Γ, B, ds, d, hH, e, k⟩ := q
  obtain ⟨x, h1, rfl⟩ := Option.map_eq_some_iff.mp e
  exact ⟨Γ, B, ds, x, hH, h1, fun B1 H1 v s1 hH1 r1 => ⟨dTru x, tru_V hH1.bh r1, k B1 H1 s1 hH1⟩⟩
/-- a comparison as a test: what it gives is a bool -/
@[simp] def isB : D → Option Bool
  | .bool b => some b
  | _ => none
@[simp] def tb (f : DSt → Option D) : DSt → Option Bool := fun s => (f s).bind isB
theorem t_cmp {op : CmpOp} {r : R2} {g : D → D → Option D} (ho : OpR X (compareOp op) r) (hr : OpD X.K r g) (ha : PED X a fa) (hb : PED X b fb) (hm : behindInMarks op b = false) : PTD X (.Compare a [op] [b] pos) (tb (e2 g fa fb)) := by
  refine ptM (pt_cmpR ho ha hb hm) fun σ H Q q => ?_
  obtain ⟨Γ, B, ds, d, hH, e, k⟩ := q
  obtain ⟨z, h0, h4⟩ := Option.bind_eq_some_iff.mp e
  obtain ⟨x, y, h1, h2, h3⟩ := e2_some h0
  refine ⟨Γ, B, ds, x, hH, h1, fun B1 H1 v s1 hH1 r1 => ⟨Γ, B1, ds, y, hH1, h2, fun B2 H2 u s2 hH2 r2 => ?_⟩⟩
  refine hr Γ B2 H2 σ ds v u x y z _ hH2 (r1.mono s2) r2 h3 fun B3 H3 w s3 hH3 r3 => ?_
  cases r3 with
  | bl bv => cases h4; exact ⟨d, rfl, k B3 H3 ((s1.trans s2).trans s3) hH3⟩
  | _ => cases h4
theorem t_eq (hu : X.A.units + 64 < cLine) (ha : PED X a fa) (hb : PED X b fb) : PTD X (.Compare a [.Eq] [b] pos) (tb (e2 dEqD fa fb)) := t_cmp (op_eqD hu) dEq_ok ha hb (nomark _)
theorem t_ne (hu : X.A.units + 64 < cLine) (ha : PED X a fa) (hb : PED X b fb) : PTD X (.Compare a [.NotEq] [b] pos) (tb (e2 dNeD fa fb)) := t_cmp (op_neD hu) dNe_ok ha hb (nomark _)
theorem t_lt (ha : PED X a fa) (hb : PED X b fb) : PTD X (.Compare a [.Lt] [b] pos) (tb (e2 dLtD fa fb)) := t_cmp opLtD dLt_ok ha hb (nomark _)
theorem t_gt (ha : PED X a fa) (hb : PED X b fb) : PTD X (.Compare a [.Gt] [b] pos) (tb (e2 dGtD fa fb)) := t_cmp opGtD dGt_ok ha hb (nomark _)
theorem t_le (ha : PED X a fa) (hb : PED X b fb) : PTD X (.Compare a [.LtE] [b] pos) (tb (e2 dLeD fa fb)) := t_cmp opLeD dLe_ok ha hb (nomark _)
theorem t_ge (ha : PED X a fa) (hb : PED X b fb) : PTD X (.Compare a [.GtE] [b] pos) (tb (e2 dGeD fa fb)) := t_cmp opGeD dGe_ok ha hb (nomark _)
theorem t_isN (ha : PED X a fa) (hb : PED X b fb) : PTD X (.Compare a [.Is] [b] pos) (tb (e2 dIsN fa fb)) := t_cmp op_isN dIsN_ok ha hb (nomark _)
theorem t_notN (ha : PED X a fa) (hb : PED X b fb) : PTD X (.Compare a [.IsNot] [b] pos) (tb (e2 dNotN fa fb)) := t_cmp op_notN dNotN_ok ha hb (nomark _)
theorem t_in (hu : X.A.units + 65 < cLine) (ha : PED X a fa) (hb : PED X b fb) (hm : behindInMarks .In b = false) : PTD X (.Compare a [.In] [b] pos) (tb (e2 dInD fa fb)) := t_cmp (op_inAll hu) (dIn_all false) ha hb hm
theorem t_notIn (hu : X.A.units + 65 < cLine) (ha : PED X a fa) (hb : PED X b fb) (hm : behindInMarks .NotIn b = false) : PTD X (.Compare a [.NotIn] [b] pos) (tb (e2 dNotInD fa fb)) := t_cmp (op_notInAll hu) (dIn_all true) ha hb hm
/-- a chain a op b op' c -/
@[simp] def e3c (g g' : D → D → Option D) (fa fb fc : DSt → Option D) : DSt → Option D := fun s => (fa s).bind fun x => (fb s).bind fun y => (g x y).bind fun z =>
  (isB z).bind fun b => if b = true then (fc s).bind fun w => g' y w else some (.bool false)
theorem e3c_some {g g' : D → D → Option D} {s : DSt} {d : D} (h : e3c g g' fa fb fc s = some d) : ∃ x y b, fa s = some x ∧ fb s = some y ∧ g x y = some (.bool b) ∧ (if b = true then (fc s).bind (fun w => g' y w) else some (.bool false)) = some d := by
  unfold e3c at h
  obtain ⟨x, h1, h⟩ := Option.bind_eq_some_iff.mp h
  obtain ⟨y, h2, h⟩ := Option.bind_eq_some_iff.mp h
  obtain ⟨z, h3, h⟩ := Option.bind_eq_some_iff.mp h
  obtain ⟨b, h4, h⟩ := Option.bind_eq_some_iff.mp h
  refine ⟨x, y, b, h1, h2, ?_, h⟩
  rw [h3]
  cases z <;> first | (cases h4; rfl) | cases h4
theorem chain_go {op op' : CmpOp} {r r' : R2} {g g' : D → D → Option D} (hr : OpD X.K r g) (hr' : OpD X.K r' g') {σ : L2.St} {H : Hp} {Q : VK} (q : tE X.K (e3c g g' fa fb fc) σ H Q) : tChain r r' (tE X.K fa) (tE X.K fb) (tE X.K fc) σ H Q := by
  obtain ⟨Γ, B, ds, d, hH, e, k⟩ := q
  obtain ⟨x, y, b, h1, h2, h3, h4⟩ := e3c_some e
  refine ⟨Γ, B, ds, x, hH, h1, fun B1 H1 v s1 hH1 r1 => ⟨Γ, B1, ds, y, hH1, h2, fun B2 H2 u s2 hH2 r2 => ?_⟩⟩
  refine hr Γ B2 H2 σ ds v u x y _ _ hH2 (r1.mono s2) r2 h3 fun B3 H3 w s3 hH3 r3 => ?_
  cases r3
  refine ⟨b, rfl, ?_⟩
  cases b with
  | false =>
    cases h4
    exact iteF (k B3 H3 _ ((s1.trans s2).trans s3) hH3 (.bl _))
  | true =>
    rw [if_pos rfl] at h4
    obtain ⟨w', h5, h6⟩ := Option.bind_eq_some_iff.mp h4
    refine iteT ⟨Γ, B3, ds, w', hH3, h5, fun B4 H4 z s4 hH4 r4 => ?_⟩
    exact hr' Γ B4 H4 σ ds u z y w' d Q hH4 ((r2.mono s3).mono s4) r4 h6 fun B5 H5 w s5 hH5 r5 => k B5 H5 w (((s1.trans s2).trans s3).trans (s4.trans s5)) hH5 r5
theorem d_chain {op op' : CmpOp} {r r' : R2} {g g' : D → D → Option D} (ho : OpR X (compareOp op) r) (ho' : OpR X (compareOp op') r') (hr : OpD X.K r g) (hr' : OpD X.K r' g') (ha : PED X a fa) (hb : PED X b fb) (hc : PED X c fc)
    (hm : lastMarks [op, op'] [b, c] = false) : PED X (.Compare a [op, op'] [b, c] pos) (e3c g g' fa fb fc) :=
  peM (pe_chain ho ho' ha hb hc hm) fun σ H Q q => chain_go (op := op) (op' := op') hr hr' q
theorem t_chain {op op' : CmpOp} {r r' : R2} {g g' : D → D → Option D} (ho : OpR X (compareOp op) r) (ho' : OpR X (compareOp op') r') (hr : OpD X.K r g) (hr' : OpD X.K r' g') (ha : PED X a fa) (hb : PED X b fb) (hc : PED X c fc)
    (hm : lastMarks [op, op'] [b, c] = false) : PTD X (.Compare a [op, op'] [b, c] pos) (tb (e3c g g' fa fb fc)) := by
  refine ptM (pt_chain ho ho' ha hb hc hm) fun σ H Q q => ?_
  obtain ⟨Γ, B, ds, d, hH, e, k⟩ := q
  obtain ⟨z, h0, h4⟩ := Option.bind_eq_some_iff.mp e
  refine chain_go (op := op) (op' := op') hr hr' ⟨Γ, B, ds, z, hH, h0, fun B' H' v s' hH' r' => ?_⟩
  cases r' with
  | bl bv => cases h4; exact ⟨d, rfl, k B' H' s' hH'⟩
  | _ => cases h4

/-! ### and, or, not -/
variable {ga gb : DSt → Option Bool} {rest : List Expr}
@[simp] def bAnd (f g : DSt → Option Bool) : DSt → Option Bool := fun s => (f s).bind fun b => if b = true then g s else some false
@[simp] def bOr (f g : DSt → Option Bool) : DSt → Option Bool := fun s => (f s).bind fun b => if b = true then some true else g s
@[simp] def bNot (f : DSt → Option Bool) : DSt → Option Bool := fun s => (f s).map (!·)
/-- tests, whatever their whole -/
def PWD (X : Cx) (e : Expr) (f : DSt → Option Bool) : Prop := PW X e (tT X.K f)
theorem pwM {e : Expr} {t t' : TT} (h : PW X e t) (i : ∀ σ H Q, t' σ H Q → t σ H Q) : PW X e t' := ⟨fun wh pins s σ H Q I hw => h.run wh pins s σ H Q I (i σ H Q hw)⟩
theorem w_and1 (ha : PTD X a ga) : PWD X (.BoolOp .And [a] pos) ga := pw_and1 ha
theorem w_or1 (ha : PTD X a ga) : PWD X (.BoolOp .Or [a] pos) ga := pw_or1 ha
theorem w_and (ha : PTD X a ga) (hb : PWD X (.BoolOp .And (b :: rest) pos) gb) : PWD X (.BoolOp .And (a :: b :: rest) pos) (bAnd ga gb) := by
  refine pwM (pw_and ha hb) fun σ H Q q => ?_
  obtain ⟨Γ, B, ds, d, hH, e, k⟩ := q
  obtain ⟨x, h1, h2⟩ := Option.bind_eq_some_iff.mp e
  refine ⟨Γ, B, ds, x, hH, h1, fun B1 H1 s1 hH1 => ?_⟩
  cases x with
  | true => exact iteT ⟨Γ, B1, ds, d, hH1, h2, fun B2 H2 s2 hH2 => k B2 H2 (s1.trans s2) hH2⟩
  | false => cases h2; exact iteF (k B1 H1 s1 hH1)
theorem w_or (ha : PTD X a ga) (hb : PWD X (.BoolOp .Or (b :: rest) pos) gb) : PWD X (.BoolOp .Or (a :: b :: rest) pos) (bOr ga gb) := by
  refine pwM (pw_or ha hb) fun σ H Q q => ?_
  obtain ⟨Γ, B, ds, d, hH, e, k⟩ := q
  obtain ⟨x, h1, h2⟩ := Option.bind_eq_some_iff.mp e
  refine ⟨Γ, B, ds, x, hH, h1, fun B1 H1 s1 hH1 => ?_⟩
  cases x with
  | true => cases h2; exact iteT (k B1 H1 s1 hH1)
  | false => exact iteF ⟨Γ, B1, ds, d, hH1, h2, fun B2 H2 s2 hH2 => k B2 H2 (s1.trans s2) hH2⟩
theorem t_w (h : PWD X e ga) : PTD X e ga := PW.pt h
theorem t_not (ha : PTD X a ga) : PTD X (.UnaryOp .Not a pos) (bNot ga) := by
  refine ptM (pt_not ha) fun σ H Q q => ?_
  obtain ⟨Γ, B, ds, d, hH, e, k⟩ := q
  obtain ⟨x, h1, rfl⟩ := Option.map_eq_some_iff.mp e
  exact ⟨Γ, B, ds, x, hH, h1, fun B1 H1 s1 hH1 => k B1 H1 s1 hH1⟩
/-- .. as values -/
@[simp] def eAnd (f g : DSt → Option D) : DSt → Option D := fun s => (f s).bind fun x => if dTru x = true then g s else some x
@[simp] def eOr (f g : DSt → Option D) : DSt → Option D := fun s => (f s).bind fun x => if dTru x = true then some x else g s
@[simp] def dNot (x : D) : Option D := some (.bool (!dTru x))
theorem d_one {op} (h : PED X a fa) : PED X (.BoolOp op [a] pos) fa := pe_one h
theorem d_and (ha : PED X a fa) (hb : PED X (.BoolOp .And (b :: rest) pos) fb) : PED X (.BoolOp .And (a :: b :: rest) pos) (eAnd fa fb) := by
  refine peM (pe_andT ha hb) fun σ H Q q => ?_
  obtain ⟨Γ, B, ds, d, hH, e, k⟩ := q
  obtain ⟨x, h1, h2⟩ := Option.bind_eq_some_iff.mp e
  refine ⟨Γ, B, ds, x, hH, h1, fun B1 H1 v s1 hH1 r1 => ⟨dTru x, tru_V hH1.bh r1, ?_⟩⟩
  split at h2
  · rename_i c
    rw [c]
    exact iteT ⟨Γ, B1, ds, d, hH1, h2, fun B2 H2 w s2 hH2 r2 => k B2 H2 w (s1.trans s2) hH2 r2⟩
  · rename_i c
    cases h2
    rw [Bool.not_eq_true] at c
    rw [c]
    exact iteF (k B1 H1 v s1 hH1 r1)
theorem d_or (ha : PED X a fa) (hb : PED X (.BoolOp .Or (b :: rest) pos) fb) : PED X (.BoolOp .Or (a :: b :: rest) pos) (eOr fa fb) := by
  refine peM (pe_orT ha hb) fun σ H Q q => ?_
  obtain ⟨Γ, B, ds, d, hH, e, k⟩ := q
  obtain ⟨x, h1, h2⟩ := Option.bind_eq_some_iff.mp e
  refine ⟨Γ, B, ds, x, hH, h1, fun B1 H1 v s1 hH1 r1 => ⟨dTru x, tru_V hH1.bh r1, ?_⟩⟩
  split at h2
  · rename_i c
    cases h2
    rw [c]
    exact iteT (k B1 H1 v s1 hH1 r1)
  · rename_i c
    rw [Bool.not_eq_true] at c
    rw [c]
    exact iteF ⟨Γ, B1, ds, d, hH1, h2, fun B2 H2 w s2 hH2 r2 => k B2 H2 w (s1.trans s2) hH2 r2⟩
theorem d_not (ha : PED X a fa) : PED X (.UnaryOp .Not a pos) (e1 dNot fa) := by
  refine peM (pe_notT ha) fun σ H Q q => ?_
  obtain ⟨Γ, B, ds, d, hH, e, k⟩ := q
  obtain ⟨x, h1, h2⟩ := e1_some e
  cases h2
  exact ⟨Γ, B, ds, x, hH, h1, fun B1 H1 v s1 hH1 r1 => ⟨dTru x, tru_V hH1.bh r1, k B1 H1 _ s1 hH1 (.bl _)⟩⟩
@[simp] def eIf (c : DSt → Option Bool) (f g : DSt → Option D) : DSt → Option D := fun s => (c s).bind fun b => if b = true then f s else g s
theorem d_if {c : Expr} (hc : PTD X c ga) (ha : PED X a fa) (hb : PED X b fb) : PED X (.IfExp c a b pos) (eIf ga fa fb) := by
  refine peM (pe_ifExp hc ha hb) fun σ H Q q => ?_
  obtain ⟨Γ, B, ds, d, hH, e, k⟩ := q
  obtain ⟨x, h1, h2⟩ := Option.bind_eq_some_iff.mp e
  refine ⟨Γ, B, ds, x, hH, h1, fun B1 H1 s1 hH1 => ?_⟩
  cases x with
  | true => exact iteT ⟨Γ, B1, ds, d, hH1, h2, fun B2 H2 w s2 hH2 r2 => k B2 H2 w (s1.trans s2) hH2 r2⟩
  | false => exact iteF ⟨Γ, B1, ds, d, hH1, h2, fun B2 H2 w s2 hH2 r2 => k B2 H2 w (s1.trans s2) hH2 r2⟩
end
end DL

set_option Elab.async false
set_option linter.all false
set_option autoImplicit false
set_option maxRecDepth 100000
set_option maxHeartbeats 4000000
namespace DL
open PySem PySem.Spec PyProof.Rows L2

/-! ### subscripts -/
@[simp] def dIx : D → D → Option D
  | .list xs, .int i => atI xs i
  | .tuple xs, .int i => atI xs i
  | .str z, .int i => (atI z.cps.toList i).map fun c => .str ⟨#[c]⟩
  | .dict ps, k => (keyOf k).bind fun k => lookD ps k
  | _, _ => none
section
variable {X : Cx} {e a b c : Expr} {fa fb fc : DSt → Option D} {pos : Pos}
def rIxD (K : PySem.W.Frag) : R2 := fun x y H Q => rIx K x y H Q ∨ ∃ a v, x = .ref a ∧ DGet H a y (some v) ∧ Q v H
theorem ix_dk (hu : X.A.units + 1 < cLine) : IxR X (fun x y H Q => ∃ a v, x = .ref a ∧ DGet H a y (some v) ∧ Q v H) := by
  intro value slice pins s σ H x y v u Q I rx ry h hs
  obtain ⟨a, z, rfl, g, q⟩ := h
  cases rx
  exact tail_any (dict_typeIs I g) PySem.F.slot_dict_getitem.lookup (d_getItem hu I g ry fun w' s3 I3 rw' => ⟨z, H, I3, rw', q⟩) hs
theorem ix_any (hu : X.A.units + 1 < cLine) : IxR X (rIxD X.K) := ix_seq.or (ix_dk hu)
theorem RpAll.atI {K : PySem.W.Frag} {B : Hp} {vs : List V} {ds : List D} {i : Int} {d : D} (r : RpAll K B vs ds) (h : atI ds i = some d) : ∃ v, atI vs i = some v ∧ Rp K B v d := by
  unfold L2.atI at h ⊢
  obtain ⟨j, h1, h2⟩ := Option.bind_eq_some_iff.mp h
  obtain ⟨v, h3, h4⟩ := r.get h2
  exact ⟨v, by rw [r.length, h1]; exact h3, h4⟩
theorem sOk_one {c : Nat} {z : Str} (h : sOk z = true) (m : c ∈ z.cps.toList) : sOk ⟨#[c]⟩ = true := by
  refine sOk_mk (by show 1 ≤ sizeLine; decide) ?_
  have h2 := sOk_ok h
  unfold PyData.strOk at h2 ⊢
  rw [Array.all_eq_true_iff_forall_mem] at h2
  have : c ∈ z.cps := by simpa using m
  have := h2 c this
  simpa using this
theorem atI_mem {α : Type} {xs : List α} {i : Int} {v : α} (h : atI xs i = some v) : v ∈ xs := by
  obtain ⟨j, _, h2, _⟩ := atI_get h
  exact List.mem_of_getElem? h2
theorem dIx_ok {K : PySem.W.Frag} : OpD K (rIxD K) dIx := by
  intro Γ B H σ ds v u x y d Q hH r1 r2 h k
  unfold dIx at h
  split at h
  · obtain ⟨p, xs, rfl, q, t⟩ := r1.unlst
    cases r2
    obtain ⟨w, h1, h2⟩ := t.atI h
    exact .inl (.inl ⟨p, xs, _, w, rfl, rfl, (hH.bh.seq q), h1, k B H w (Same.refl B) hH h2⟩)
  · obtain ⟨p, xs, rfl, q, t⟩ := r1.untup
    cases r2
    obtain ⟨w, h1, h2⟩ := t.atI h
    exact .inl (.inr (.inl ⟨p, xs, _, w, rfl, rfl, sameT hH.bh q, h1, k B H w (Same.refl B) hH h2⟩))
  · obtain ⟨c, h1, rfl⟩ := Option.map_eq_some_iff.mp h
    cases r1 with
    | str _ hs =>
      cases r2
      exact .inl (.inr (.inr ⟨_, _, c, rfl, rfl, sOk_len hs, h1, k B H _ (Same.refl B) hH (.str _ (sOk_one hs (atI_mem h1)))⟩))
  · obtain ⟨key, h1, h2⟩ := Option.bind_eq_some_iff.mp h
    obtain ⟨p, kvs, rfl, q, t⟩ := r1.undic
    rcases lookD_val key t with ⟨_, e2⟩ | ⟨w, d', e1, e2, r⟩
    · rw [e2] at h2; cases h2
    · rw [e2] at h2; cases h2
      refine .inr ⟨p, w, rfl, ?_, k B H w (Same.refl B) hH r⟩
      rw [keyOf_V r2 h1, ← e1]
      exact DGet.k (hH.bh _ _ q)
  · cases h
theorem d_ix (hu : X.A.units + 1 < cLine) (ha : PED X a fa) (hb : PED X b fb) (hs : PlainIx b := by intro _ _; rfl) : PED X (.Subscript a b pos) (e2 dIx fa fb) := op2 dIx_ok ha hb (pe_ix (ix_any hu) ha hb hs)

/-! ### slices -/
@[simp] def isI : D → Option Int
  | .int i => some i
  | _ => none
/-- an optional part -/
def tO (K : PySem.W.Frag) (f : DSt → Option (Option Int)) : TO := fun σ H Q => ∃ Γ B ds d, Hold K Γ B H σ ds ∧ f ds = some d ∧ ∀ B' H', Same B B' → Hold K Γ B' H' σ ds → Q d H'
def POD (X : Cx) (e : Option Expr) (f : DSt → Option (Option Int)) : Prop := PO X e (tO X.K f)
theorem poM {e : Option Expr} {t t' : TO} (h : PO X e t) (i : ∀ σ H Q, t' σ H Q → t σ H Q) : PO X e t' := ⟨fun pins s σ H Q I hw => h.run pins s σ H Q I (i σ H Q hw)⟩
@[simp] def oNo : DSt → Option (Option Int) := fun _ => some none
@[simp] def oYes (f : DSt → Option D) : DSt → Option (Option Int) := fun s => ((f s).bind isI).map some
theorem o_none : POD X none oNo := by
  refine poM po_none fun σ H Q q => ?_
  obtain ⟨Γ, B, ds, d, hH, e, k⟩ := q
  cases e
  exact k B H (Same.refl B) hH
theorem o_some (ha : PED X a fa) : POD X (some a) (oYes fa) := by
  refine poM (po_some ha) fun σ H Q q => ?_
  obtain ⟨Γ, B, ds, d, hH, e, k⟩ := q
  obtain ⟨i, h1, rfl⟩ := Option.map_eq_some_iff.mp e
  obtain ⟨x, h2, h3⟩ := Option.bind_eq_some_iff.mp h1
  refine ⟨Γ, B, ds, x, hH, h2, fun B1 H1 v s1 hH1 r1 => ?_⟩
  cases r1 with
  | int j => cases h3; exact ⟨_, rfl, k B1 H1 s1 hH1⟩
  | _ => cases h3
def cutD {α : Type} (xs : List α) (lo hi : Option Int) : List α := (xs.drop (HT.sIx xs.length 0 lo)).take (HT.sIx xs.length xs.length hi - HT.sIx xs.length 0 lo)
@[simp] def dSl (lo hi : Option Int) : D → Option D
  | .list xs => some (.list (cutD xs lo hi))
  | .str z => some (.str (cutS z lo hi))
  | .tuple xs => if HT.sIx xs.length 0 lo = 0 ∧ HT.sIx xs.length xs.length hi = xs.length then none else some (.tuple (cutD xs lo hi))
  | _ => none
def rSlAll (K : PySem.W.Frag) : V → Option Int → Option Int → Hp → VK → Prop := fun x lo hi H Q => rSlL K x lo hi H Q ∨ rSlT K x lo hi H Q ∨ rSlS x lo hi H Q
theorem sl_all : SlR X (rSlAll X.K) := sl_list.or (sl_tup.or sl_str)
@[simp] def eSl (fa : DSt → Option D) (fl fh : DSt → Option (Option Int)) : DSt → Option D := fun s => (fa s).bind fun x => (fl s).bind fun lo => (fh s).bind fun hi => dSl lo hi x
theorem RpAll.cut {K : PySem.W.Frag} {B : Hp} {vs : List V} {ds : List D} (r : RpAll K B vs ds) (lo hi : Option Int) : RpAll K B (cutV vs lo hi) (cutD ds lo hi) := by
  unfold cutV cutD
  rw [r.length]
  exact (r.drop _).take _
theorem cutS_ok {z : Str} {lo hi : Option Int} (h : sOk z = true) : sOk (cutS z lo hi) = true := by
  refine sOk_mk (Nat.le_trans (cutS_length z lo hi) (sOk_len h)) ?_
  have h2 := sOk_ok h
  unfold PyData.strOk at h2 ⊢
  rw [Array.all_eq_true_iff_forall_mem] at h2 ⊢
  intro c hc
  refine h2 c ?_
  have : c ∈ (z.cps.toList.drop (HT.sIx z.length 0 lo)).take (HT.sIx z.length z.length hi - HT.sIx z.length 0 lo) := by
    have : c ∈ (cutS z lo hi).cps.toList := by simpa using hc
    simpa [cutS] using this
  have := List.mem_of_mem_drop (List.mem_of_mem_take this)
  simpa using this
theorem eSl_some {fl fh : DSt → Option (Option Int)} {s : DSt} {d : D} (h : eSl fa fl fh s = some d) : ∃ x lo hi, fa s = some x ∧ fl s = some lo ∧ fh s = some hi ∧ dSl lo hi x = some d := by
  unfold eSl at h
  obtain ⟨x, h1, h⟩ := Option.bind_eq_some_iff.mp h
  obtain ⟨lo, h2, h⟩ := Option.bind_eq_some_iff.mp h
  obtain ⟨hi, h3, h⟩ := Option.bind_eq_some_iff.mp h
  exact ⟨x, lo, hi, h1, h2, h3, h⟩
theorem d_slice {lo hi : Option Expr} {p2 : Pos} {fl fh : DSt → Option (Option Int)} (ha : PED X a fa) (hl : POD X lo fl) (hh : POD X hi fh) : PED X (.Subscript a (.Slice lo hi none p2) pos) (eSl fa fl fh) := by
  refine peM (pe_slice sl_all ha hl hh) fun σ H Q q => ?_
  obtain ⟨Γ, B, ds, d, hH, e, k⟩ := q
  obtain ⟨x, l, h, h1, h2, h3, h4⟩ := eSl_some e
  refine ⟨Γ, B, ds, x, hH, h1, fun B1 H1 v s1 hH1 r1 => ⟨Γ, B1, ds, l, hH1, h2, fun B2 H2 s2 hH2 => ⟨Γ, B2, ds, h, hH2, h3, fun B3 H3 s3 hH3 => ?_⟩⟩⟩
  have r3 := (r1.mono s2).mono s3
  have k' : Wn X.K Γ B3 σ ds d Q := fun B' H' w s' hH' r' => k B' H' w (((s1.trans s2).trans s3).trans s') hH' r'
  unfold dSl at h4
  split at h4
  · cases h4
    obtain ⟨p, xs, rfl, q, t⟩ := r3.unlst
    exact .inl ⟨p, xs, rfl, (hH3.bh.seq q), Wn.lst hH3 (t.cut l h) k'⟩
  · cases h4
    cases r3 with
    | str _ hs => exact .inr (.inr ⟨_, rfl, sOk_len hs, k' B3 H3 _ (Same.refl B3) hH3 (.str _ (cutS_ok hs))⟩)
  · split at h4
    · cases h4
    · rename_i c
      cases h4
      obtain ⟨p, xs, rfl, q, t⟩ := r3.untup
      exact .inr (.inl ⟨p, xs, rfl, sameT hH3.bh q, by rw [t.length]; exact c, Wn.tup hH3 (t.cut l h) k'⟩)
  · cases h4
@[simp] def dSlL (lo hi : Option Int) : D → Option D
  | .list xs => some (.list (cutD xs lo hi))
  | _ => none
@[simp] def eSlL (fa : DSt → Option D) (fl fh : DSt → Option (Option Int)) : DSt → Option D := fun s => (fa s).bind fun x => (fl s).bind fun lo => (fh s).bind fun hi => dSlL lo hi x
theorem f_slice {lo hi : Option Expr} {p2 : Pos} {fl fh : DSt → Option (Option Int)} (ha : PED X a fa) (hl : POD X lo fl) (hh : POD X hi fh) : PFD X (.Subscript a (.Slice lo hi none p2) pos) (eSlL fa fl fh) := by
  refine peM (pe_slice sl_list ha hl hh) fun σ H Q q => ?_
  obtain ⟨Γ, B, ds, d, hH, e, k⟩ := q
  unfold eSlL at e
  obtain ⟨x, h1, e⟩ := Option.bind_eq_some_iff.mp e
  obtain ⟨l, h2, e⟩ := Option.bind_eq_some_iff.mp e
  obtain ⟨h, h3, h4⟩ := Option.bind_eq_some_iff.mp e
  refine ⟨Γ, B, ds, x, hH, h1, fun B1 H1 v s1 hH1 r1 => ⟨Γ, B1, ds, l, hH1, h2, fun B2 H2 s2 hH2 => ⟨Γ, B2, ds, h, hH2, h3, fun B3 H3 s3 hH3 => ?_⟩⟩⟩
  have r3 := (r1.mono s2).mono s3
  unfold dSlL at h4
  split at h4
  · cases h4
    obtain ⟨p, xs, rfl, q, t⟩ := r3.unlst
    exact ⟨p, xs, rfl, (hH3.bh.seq q), Wn.lstF hH3 (t.cut l h) fun B' H' a s' hH' w => k B' H' a (((s1.trans s2).trans s3).trans s') hH' w⟩
  · cases h4

/-! ### argument lists, displays -/
variable {es : List Expr} {fs : DSt → Option (List D)}
@[simp] def aNil : DSt → Option (List D) := fun _ => some []
@[simp] def aCons (f : DSt → Option D) (g : DSt → Option (List D)) : DSt → Option (List D) := fun s => (f s).bind fun x => (g s).map fun xs => x :: xs
theorem a_nil : PAD X [] aNil := by
  refine paM pa_nil fun σ H Q q => ?_
  obtain ⟨Γ, B, ds, d, hH, e, k⟩ := q
  cases e
  exact k B H [] (Same.refl B) hH .nil
theorem a_cons (ha : PED X a fa) (hr : PAD X es fs) (hs : starEach (a :: es) X.env = (false, eval a X.env) :: starEach es X.env := by rfl) : PAD X (a :: es) (aCons fa fs) := by
  refine paM (pa_cons ha hr hs) fun σ H Q q => ?_
  obtain ⟨Γ, B, ds, d, hH, e, k⟩ := q
  obtain ⟨x, h1, e⟩ := Option.bind_eq_some_iff.mp e
  obtain ⟨xs, h2, rfl⟩ := Option.map_eq_some_iff.mp e
  exact ⟨Γ, B, ds, x, hH, h1, fun B1 H1 v s1 hH1 r1 => ⟨Γ, B1, ds, xs, hH1, h2, fun B2 H2 vs s2 hH2 r2 => k B2 H2 (v :: vs) (s1.trans s2) hH2 (.cons (r1.mono s2) r2)⟩⟩
@[simp] def mkTup (l : List D) : Option D := if l.length ≤ sizeLine then some (.tuple l) else none
@[simp] def mkLst (l : List D) : Option D := if l.length ≤ sizeLine then some (.list l) else none
@[simp] def eTup (f : DSt → Option (List D)) : DSt → Option D := fun s => (f s).bind mkTup
@[simp] def eLst (f : DSt → Option (List D)) : DSt → Option D := fun s => (f s).bind mkLst
theorem d_tup {k : Nat} (h : PAD X es fs) : PED X (.Tuple es k pos) (eTup fs) := by
  refine peM (pe_tup h) fun σ H Q q => ?_
  obtain ⟨Γ, B, ds, d, hH, e, k⟩ := q
  obtain ⟨xs, h1, h2⟩ := Option.bind_eq_some_iff.mp e
  unfold mkTup at h2
  split at h2
  · rename_i c
    cases h2
    refine ⟨Γ, B, ds, xs, hH, h1, fun B1 H1 vs s1 hH1 r1 => ⟨by rw [r1.length]; exact c, Wn.tup hH1 r1 fun B' H' w s' hH' r' => k B' H' w (s1.trans s') hH' r'⟩⟩
  · cases h2
theorem f_lst (h : PAD X es fs) : PFD X (.List es pos) (eLst fs) := by
  refine peM (pe_lst h) fun σ H Q q => ?_
  obtain ⟨Γ, B, ds, d, hH, e, k⟩ := q
  obtain ⟨xs, h1, h2⟩ := Option.bind_eq_some_iff.mp e
  unfold mkLst at h2
  split at h2
  · rename_i c
    cases h2
    refine ⟨Γ, B, ds, xs, hH, h1, fun B1 H1 vs s1 hH1 r1 => ⟨by rw [r1.length]; exact c, Wn.lstF hH1 r1 fun B' H' w s' hH' r' => k B' H' w (s1.trans s') hH' r'⟩⟩
  · cases h2
theorem d_lst (h : PAD X es fs) : PED X (.List es pos) (eLst fs) := d_frz (f_lst h)

/-! ### calls of the program's defs -/
/-- what a def promises: the data that den tells -/
def spD (K : PySem.W.Frag) (den : List D → Option D) : Sp := fun vs H Q _ => ∃ (B : Hp) (ds : List D) (r : D), Same B H ∧ RpAll K B vs ds ∧ den ds = some r ∧
  ∀ B' H' v, Same B B' → Same B' H' → Same H H' → (∀ b o, B' b = some o → B b = some o ∨ (B b = none ∧ H b = none)) → Rp K B' v r → Q v H'
/-- .. a new list or dict -/
def spF (K : PySem.W.Frag) (den : List D → Option D) : Sp := fun vs H Q _ => ∃ (B : Hp) (ds : List D) (r : D), Same B H ∧ RpAll K B vs ds ∧ den ds = some r ∧
  ∀ B' H' a, Same B B' → Same B' H' → Same H H' → (∀ b o, B' b = some o → B b = some o ∨ (B b = none ∧ H b = none)) → H a = none → B' a = none → OwnAt K B' H' a r → Q (.ref a) H'
theorem Hold.call {K : PySem.W.Frag} {Γ : Ent} {B H B' H' : Hp} {σ : L2.St} {ds : DSt} (h : Hold K Γ B H σ ds) (s : Same B B') (bh : Same B' H') (sh : Same H H') (fr : ∀ b o, B' b = some o → B b = some o ∨ (B b = none ∧ H b = none)) : Hold K Γ B' H' σ ds := by
  refine ⟨h.len, bh, h.gb.trans s, fun b o q l => sh _ _ (h.keep b o q l), fun b o q => ?_, fun i d q => ?_, fun i d l q => ?_, h.inj, h.lent, h.lb⟩
  · rcases fr b o q with z | ⟨z1, z2⟩
    · exact h.fresh b o z
    · exact .inr ⟨h.gb.free z1, h.gnone z2⟩
  · obtain ⟨v, e, r⟩ := h.val i d q
    exact ⟨v, e, r.mono s⟩
  · obtain ⟨a, e1, e2, e3, e4⟩ := h.own i d l q
    refine ⟨a, e1, ?_, (e3.mono s).heap (sh a), e4⟩
    cases q : B' a with
    | none => rfl
    | some o =>
      rcases fr a o q with z | ⟨_, z⟩
      · rw [e2] at z; cases z
      · obtain ⟨o', e5⟩ := e3.there
        rw [z] at e5; cases e5
/-- a def of the module, told by its function -/
structure DefOk (P : Program) (w : World) (K : PySem.W.Frag) (mg : Str → Option Value) (base : Heap) (k : Nat) (x : Str) (sp : Sp) : Prop where
  ex : ∃ (f : Addr) (fd : FuncData) (ps : List Str), FnOk P w K mg base CX0 k f fd ps sp ∧ mg x = some (.ref f) ∧ PySem.W.keepIn K (.ref f) = true ∧ Binds K fd ps []
theorem DefOk.mono {P : Program} {w : World} {K : PySem.W.Frag} {mg : Str → Option Value} {base : Heap} {j k : Nat} {x : Str} {sp : Sp} (h : DefOk P w K mg base j x sp) (l : j ≤ k) : DefOk P w K mg base k x sp := by
  obtain ⟨f, fd, ps, F, r⟩ := h.ex
  exact ⟨f, fd, ps, F.mono l, r⟩
@[simp] def eCall (den : List D → Option D) (fs : DSt → Option (List D)) : DSt → Option D := fun s => (fs s).bind den
theorem d_call {k j : Nat} {x : Str} {p : Pos} {den : List D → Option D} (F : DefOk X.prog X.w X.K X.mg X.base k x (spD X.K den)) (hr : Room j X.A) (hj : k ≤ j) (hg : Gl X x) (ha : PAD X (a :: es) fs)
    (hs : starEach (a :: es) X.env = (false, eval a X.env) :: starEach es X.env := by rfl) (hp : (backTo pos (starEach es X.env)).any (·.1) = false := by rfl) (hd : (x == ("__debug__" : Str)) = false := by decide) : PED X (.Call (.Name x p) (a :: es) [] pos) (eCall den fs) := by
  obtain ⟨f, fd, ps, F, hm, hk, hb⟩ := F.ex
  refine peM (pe_call F (hr.mono hj) hg hm hk hb .nil pass0 ha (hdb := hd) (he := hs) (hpl := hp)) fun σ H Q q => ?_
  obtain ⟨Γ, B, ds, d, hH, e, k⟩ := q
  obtain ⟨xs, h1, h2⟩ := Option.bind_eq_some_iff.mp e
  refine ⟨Γ, B, ds, xs, hH, h1, fun B1 H1 vs s1 hH1 r1 => ⟨B1, xs, d, hH1.bh, by simpa using r1, h2, fun B2 H2 v s2 bh sh fr r2 => k B2 H2 v (s1.trans s2) (hH1.call s2 bh sh fr) r2⟩⟩
theorem f_call {k j : Nat} {x : Str} {p : Pos} {den : List D → Option D} (F : DefOk X.prog X.w X.K X.mg X.base k x (spF X.K den)) (hr : Room j X.A) (hj : k ≤ j) (hg : Gl X x) (ha : PAD X (a :: es) fs)
    (hs : starEach (a :: es) X.env = (false, eval a X.env) :: starEach es X.env := by rfl) (hp : (backTo pos (starEach es X.env)).any (·.1) = false := by rfl) (hd : (x == ("__debug__" : Str)) = false := by decide) : PFD X (.Call (.Name x p) (a :: es) [] pos) (eCall den fs) := by
  obtain ⟨f, fd, ps, F, hm, hk, hb⟩ := F.ex
  refine peM (pe_call F (hr.mono hj) hg hm hk hb .nil pass0 ha (hdb := hd) (he := hs) (hpl := hp)) fun σ H Q q => ?_
  obtain ⟨Γ, B, ds, d, hH, e, k⟩ := q
  obtain ⟨xs, h1, h2⟩ := Option.bind_eq_some_iff.mp e
  refine ⟨Γ, B, ds, xs, hH, h1, fun B1 H1 vs s1 hH1 r1 => ⟨B1, xs, d, hH1.bh, by simpa using r1, h2, fun B2 H2 v s2 bh sh fr n bn o => k B2 H2 v (s1.trans s2) (hH1.call s2 bh sh fr) ⟨bn, o, hH1.gnone n, hH1.ownNe n⟩⟩⟩
end
end DL

set_option Elab.async false
set_option linter.all false
set_option autoImplicit false
set_option maxRecDepth 100000
set_option maxHeartbeats 4000000
namespace DL
open PySem PySem.Spec PyProof.Rows L2

/-! ### what is walked -/
def FolJ (K : PySem.W.Frag) (J : It) (B₀ : Hp) (items : List D) : Prop := ∀ Γ B H σ ds, Same B₀ B → Hold K Γ B H σ ds → J.stop items.length H ∧
  ∀ (i : Nat) d, items[i]? = some d → J.go i H ∧ ∀ x H', J.yld i H x H' → ∃ B', Same B B' ∧ Hold K Γ B' H' σ ds ∧ Rp K B' x d
def tI (K : PySem.W.Frag) (f : DSt → Option (List D)) : TI := fun σ H R => ∃ Γ B ds items, Hold K Γ B H σ ds ∧ f ds = some items ∧
  ∀ J B' H', Same B B' → Hold K Γ B' H' σ ds → FolJ K J B' items → R J H'
def PID (X : Cx) (tg iter : Expr) (f : DSt → Option (List D)) : Prop := PI X tg iter (tI X.K f)
theorem piM {X : Cx} {tg e : Expr} {t t' : TI} (h : PI X tg e t) (i : ∀ σ H R, t' σ H R → t σ H R) : PI X tg e t' := ⟨fun pins s σ H R I hw => h.run pins s σ H R I (i σ H R hw)⟩
/-- what a value is walked as -/
def signsD (x : Str) : List D := x.cps.toList.map fun c => .str ⟨#[c]⟩
@[simp] def dIter : D → Option (List D)
  | .list xs => some xs
  | .tuple xs => some xs
  | .str x => some (signsD x)
  | _ => none
@[simp] def eIter (f : DSt → Option D) : DSt → Option (List D) := fun s => (f s).bind dIter
section
variable {K : PySem.W.Frag} {B₀ : Hp}
theorem fol_list {a : Addr} {vs : List V} {items : List D} (q : SqL K B₀ a vs) (t : RpAll K B₀ vs items) : FolJ K (Itl K a) B₀ items := by
  intro Γ B H σ ds s hH
  have hq : SqL K H a vs := (s.trans hH.bh).seq q
  have t' := t.mono s
  refine ⟨⟨vs, hq, by rw [t.length]; exact Nat.le_refl _⟩, fun i d e => ?_⟩
  obtain ⟨v, h1, h2⟩ := t'.get e
  refine ⟨⟨vs, v, hq, h1⟩, fun x H' y => ?_⟩
  obtain ⟨rfl, y⟩ := y
  have := y vs hq
  rw [h1] at this; cases this
  exact ⟨B, Same.refl B, hH, h2⟩
theorem fol_tup {a : Addr} {vs : List V} {items : List D} (q : SqT K B₀ a vs) (t : RpAll K B₀ vs items) : FolJ K (Itt K a) B₀ items := by
  intro Γ B H σ ds s hH
  have hq : SqT K H a vs := sameT (s.trans hH.bh) q
  have t' := t.mono s
  refine ⟨⟨vs, hq, by rw [t.length]; exact Nat.le_refl _⟩, fun i d e => ?_⟩
  obtain ⟨v, h1, h2⟩ := t'.get e
  refine ⟨⟨vs, v, hq, h1⟩, fun x H' y => ?_⟩
  obtain ⟨rfl, y⟩ := y
  have := y vs hq
  rw [h1] at this; cases this
  exact ⟨B, Same.refl B, hH, h2⟩
theorem fol_str {x : Str} (h : sOk x = true) : FolJ K (Its x) B₀ (signsD x) := by
  intro Γ B H σ ds s hH
  refine ⟨by show x.cps.size ≤ (signsD x).length; simp [signsD], fun i d e => ?_⟩
  have e' : ∃ c, x.cps.toList[i]? = some c ∧ PyData.str ⟨#[c]⟩ = d := by
    unfold signsD at e
    rw [List.getElem?_map] at e
    exact Option.map_eq_some_iff.mp e
  obtain ⟨c, e1, rfl⟩ := e'
  have hc : x.cps[i]? = some c := by simpa using e1
  refine ⟨by show i < x.cps.size; exact (Array.getElem?_eq_some_iff.mp hc).1, fun v H' y => ?_⟩
  obtain ⟨rfl, c', h1, rfl⟩ := y
  rw [hc] at h1; cases h1
  exact ⟨B, Same.refl B, hH, .str _ (sOk_one h (List.mem_of_getElem? e1))⟩
theorem fol_range {lo : Int} {n : Nat} : FolJ K (Itr lo n) B₀ ((List.range n).map fun i => .int (lo + (i : Nat))) := by
  intro Γ B H σ ds s hH
  refine ⟨by show n ≤ _; simp, fun i d e => ?_⟩
  rw [List.getElem?_map] at e
  obtain ⟨j, e1, rfl⟩ := Option.map_eq_some_iff.mp e
  have hi : i < n := by
    have := (List.getElem?_eq_some_iff.mp e1).1
    simpa using this
  rw [List.getElem?_range hi] at e1
  cases e1
  refine ⟨hi, fun v H' y => ?_⟩
  obtain ⟨rfl, rfl⟩ := y
  exact ⟨B, Same.refl B, hH, .int _⟩
end
section
variable {X : Cx} {tg e a b : Expr} {fa fb : DSt → Option D} {pos : Pos} {es : List Expr} {fs : DSt → Option (List D)}
/-- a list, a tuple or a text -/
theorem i_seq (ha : PED X a fa) : PID X tg a (eIter fa) := by
  refine ⟨fun pins s σ H R I h => ?_⟩
  obtain ⟨Γ, B, ds, items, hH, e, k⟩ := h
  obtain ⟨x, h1, h2⟩ := Option.bind_eq_some_iff.mp e
  -- the value by itself, then by its kind
  unfold dIter at h2
  split at h2
  · cases h2
    refine (pi_list (tg := tg) ha).run pins s σ H R I ⟨Γ, B, ds, _, hH, h1, fun B1 H1 v s1 hH1 r1 => ?_⟩
    obtain ⟨p, xs, rfl, q, t⟩ := r1.unlst
    exact ⟨p, rfl, ⟨xs, (hH1.bh.seq q)⟩, k _ B1 H1 s1 hH1 (fol_list q t)⟩
  · cases h2
    refine (pi_tup (tg := tg) ha).run pins s σ H R I ⟨Γ, B, ds, _, hH, h1, fun B1 H1 v s1 hH1 r1 => ?_⟩
    obtain ⟨p, xs, rfl, q, t⟩ := r1.untup
    exact ⟨p, rfl, ⟨xs, sameT hH1.bh q⟩, k _ B1 H1 s1 hH1 (fol_tup q t)⟩
  · cases h2
    refine (pi_str (tg := tg) ha).run pins s σ H R I ⟨Γ, B, ds, _, hH, h1, fun B1 H1 v s1 hH1 r1 => ?_⟩
    cases r1 with
    | str _ hs => exact ⟨_, rfl, k _ B1 H1 s1 hH1 (fol_str hs)⟩
  · cases h2
def small62 (j : Int) : Bool := Nat.ble j.natAbs 4611686018427387903
theorem small62_iff {j : Int} (h : small62 j = true) : -(2 ^ 62) ≤ j ∧ j < 2 ^ 62 := by
  have := Nat.le_of_ble_eq_true h
  omega
theorem small62_nat {n : Nat} (h : n ≤ 4611686018427387903) : small62 (n : Int) = true := Nat.ble_eq_true_of_le h
def natD (n : Nat) : D := .int n
def rng0 (j : Int) : Option (List D) := if small62 j = true then some ((List.range j.toNat).map natD) else none
def rng2 (i j : Int) : Option (List D) := if (small62 i && small62 j) = true then some ((List.range (j - i).toNat).map fun n => .int (i + (n : Nat))) else none
theorem rng0_nat {n : Nat} (h : n ≤ 4611686018427387903) : rng0 (n : Int) = some ((List.range n).map natD) := by
  unfold rng0
  rw [if_pos (small62_nat h), Int.toNat_natCast]
@[simp] theorem rng0_lit {n : Nat} (h : n ≤ 4611686018427387903) : rng0 (OfNat.ofNat n : Int) = some ((List.range n).map natD) := rng0_nat h
@[simp] theorem natD_def (n : Nat) : natD n = .int (n : Int) := rfl
@[simp] def eRng1 (fa : DSt → Option D) : DSt → Option (List D) := fun s => ((fa s).bind isI).bind rng0
@[simp] def eRng2 (fa fb : DSt → Option D) : DSt → Option (List D) := fun s => ((fa s).bind isI).bind fun i => ((fb s).bind isI).bind fun j => rng2 i j
theorem isI_some {x : D} {i : Int} (h : isI x = some i) : x = .int i := by
  cases x <;> first | (cases h; rfl) | cases h
theorem i_range1 {p : Pos} (hg : Gl X "range") (hm : X.mg "range" = none) (ha : PED X a fa) (hs : starEach [a] X.env = [(false, eval a X.env)] := by rfl) : PID X tg (.Call (.Name "range" p) [a] [] pos) (eRng1 fa) := by
  refine piM (pi_range1 hg hm (a_cons ha a_nil hs) hs) fun σ H R h => ?_
  obtain ⟨Γ, B, ds, items, hH, e, k⟩ := h
  obtain ⟨j, h1, h2⟩ := Option.bind_eq_some_iff.mp e
  obtain ⟨x, h3, h4⟩ := Option.bind_eq_some_iff.mp h1
  unfold rng0 at h2
  split at h2
  · rename_i c
    cases h2
    cases isI_some h4
    refine ⟨Γ, B, ds, [.int j], hH, by simp [aCons, aNil, h3], fun B1 H1 vs s1 hH1 r1 => ?_⟩
    cases r1 with
    | cons r rr =>
      cases rr
      cases r
      have e0 : ∀ n : Nat, (List.range n).map natD = (List.range n).map fun i => PyData.int (0 + (i : Nat)) := fun n => List.map_congr_left fun i _ => by rw [Int.zero_add]; rfl
      exact ⟨j, rfl, (small62_iff c).1, (small62_iff c).2, k _ B1 H1 s1 hH1 (by rw [e0]; exact fol_range)⟩
  · cases h2
theorem i_range2 {p : Pos} (hg : Gl X "range") (hm : X.mg "range" = none) (ha : PED X a fa) (hb : PED X b fb) (hs : starEach [a, b] X.env = [(false, eval a X.env), (false, eval b X.env)] := by rfl) (hs2 : starEach [b] X.env = [(false, eval b X.env)] := by rfl) :
    PID X tg (.Call (.Name "range" p) [a, b] [] pos) (eRng2 fa fb) := by
  refine piM (pi_range2 hg hm (a_cons ha (a_cons hb a_nil hs2) (by rw [hs, hs2])) hs hs2) fun σ H R h => ?_
  obtain ⟨Γ, B, ds, items, hH, e, k⟩ := h
  obtain ⟨i, h1, h2⟩ := Option.bind_eq_some_iff.mp e
  obtain ⟨x, h3, h4⟩ := Option.bind_eq_some_iff.mp h1
  obtain ⟨j, h5, h6⟩ := Option.bind_eq_some_iff.mp h2
  obtain ⟨y, h7, h8⟩ := Option.bind_eq_some_iff.mp h5
  unfold rng2 at h6
  split at h6
  · rename_i c
    cases h6
    cases isI_some h4
    cases isI_some h8
    refine ⟨Γ, B, ds, [.int i, .int j], hH, by simp [aCons, aNil, h3, h7], fun B1 H1 vs s1 hH1 r1 => ?_⟩
    cases r1 with
    | cons r rr =>
      cases rr with
      | cons r' rr =>
        cases rr
        cases r
        cases r'
        rw [Bool.and_eq_true] at c
        have c1 := small62_iff c.1
        have c2 := small62_iff c.2
        exact ⟨i, j, rfl, ⟨c1.1, c1.2, c2.1, c2.2⟩, k _ B1 H1 s1 hH1 fol_range⟩
  · cases h6
@[simp] def enumD : Nat → List D → List D
  | _, [] => []
  | n, d :: r => .tuple [.int (n : Nat), d] :: enumD (n + 1) r
theorem enumD_get : ∀ (xs : List D) (n i : Nat), (enumD n xs)[i]? = (xs[i]?).map fun d => PyData.tuple [.int ((n + i : Nat) : Int), d]
  | [], _, _ => by simp [enumD]
  | d :: r, n, 0 => by simp [enumD]
  | d :: r, n, i + 1 => by
    have := enumD_get r (n + 1) i
    simp only [enumD, List.getElem?_cons_succ]
    rw [this]
    congr 1
    funext z
    congr 4
    omega
theorem enumD_len : ∀ (xs : List D) (n : Nat), (enumD n xs).length = xs.length
  | [], _ => rfl
  | d :: r, n => congrArg (· + 1) (enumD_len r (n + 1))
theorem fol_enum {K : PySem.W.Frag} {B₀ : Hp} {a : Addr} {vs : List V} {items : List D} (q : SqL K B₀ a vs) (t : RpAll K B₀ vs items) : FolJ K (Ite K a) B₀ (enumD 0 items) := by
  intro Γ B H σ ds s hH
  have hq : SqL K H a vs := (s.trans hH.bh).seq q
  have t' := t.mono s
  refine ⟨⟨vs, hq, by rw [enumD_len, t.length]; exact Nat.le_refl _⟩, fun i d e => ?_⟩
  rw [enumD_get] at e
  obtain ⟨d', e1, rfl⟩ := Option.map_eq_some_iff.mp e
  obtain ⟨v, h1, h2⟩ := t'.get e1
  refine ⟨⟨vs, v, hq, h1⟩, fun x H' y => ?_⟩
  obtain ⟨T, z, rfl, n, rfl, y⟩ := y
  have := y vs hq
  rw [h1] at this; cases this
  have sb := same_updB (o := HO.tup [V.int (i : Nat), v]) (hH.bnone n)
  refine ⟨_, sb, hH.new n, .tup (.inl (.inl upd_same)) (.cons ?_ (.cons (h2.mono sb) .nil))⟩
  rw [Nat.zero_add]
  exact .int _
@[simp] def lstOf : D → Option (List D)
  | .list xs => some xs
  | _ => none
theorem lstOf_some {x : D} {xs : List D} (h : lstOf x = some xs) : x = .list xs := by
  cases x <;> first | (cases h; rfl) | cases h
@[simp] def eEnum (fa : DSt → Option D) : DSt → Option (List D) := fun s => ((fa s).bind lstOf).map (enumD 0)
theorem i_enum {p tpos : Pos} {elts : List Expr} {kk : Nat} (hg : Gl X "enumerate") (hm : X.mg "enumerate" = none) (ha : PED X a fa) (hs : starEach [a] X.env = [(false, eval a X.env)] := by rfl) :
    PID X (.Tuple elts kk tpos) (.Call (.Name "enumerate" p) [a] [] pos) (eEnum fa) := by
  refine piM (pi_enum hg hm (a_cons ha a_nil hs) hs) fun σ H R h => ?_
  obtain ⟨Γ, B, ds, items, hH, e, k⟩ := h
  obtain ⟨xs, h1, rfl⟩ := Option.map_eq_some_iff.mp e
  obtain ⟨x, h3, h4⟩ := Option.bind_eq_some_iff.mp h1
  cases lstOf_some h4
  refine ⟨Γ, B, ds, [.list xs], hH, by simp [aCons, aNil, h3], fun B1 H1 vs s1 hH1 r1 => ?_⟩
  cases r1 with
  | cons r rr =>
    cases rr
    obtain ⟨p, ws, rfl, q, t⟩ := r.unlst
    exact ⟨p, ws, rfl, (hH1.bh.seq q), k _ B1 H1 s1 hH1 (fol_enum q t)⟩
@[simp] def zipD : List D → List D → List D
  | x :: xs, y :: ys => .tuple [x, y] :: zipD xs ys
  | _, _ => []
theorem zipD_get : ∀ (xs ys : List D) (i : Nat) (d : D), (zipD xs ys)[i]? = some d → ∃ x y, xs[i]? = some x ∧ ys[i]? = some y ∧ d = .tuple [x, y]
  | [], _, _, _, h => by simp [zipD] at h
  | _ :: _, [], _, _, h => by simp [zipD] at h
  | x :: xs, y :: ys, 0, _, h => by simp [zipD] at h; exact ⟨x, y, rfl, rfl, h.symm⟩
  | x :: xs, y :: ys, i + 1, d, h => by
    simp only [zipD, List.getElem?_cons_succ] at h ⊢
    exact zipD_get xs ys i d h
theorem zipD_len : ∀ (xs ys : List D), xs.length ≤ (zipD xs ys).length ∨ ys.length ≤ (zipD xs ys).length
  | [], _ => .inl (Nat.zero_le _)
  | _ :: _, [] => .inr (Nat.zero_le _)
  | x :: xs, y :: ys => by
    simp only [zipD, List.length_cons]
    rcases zipD_len xs ys with h | h
    · exact .inl (by omega)
    · exact .inr (by omega)
theorem fol_zip {K : PySem.W.Frag} {B₀ : Hp} {a b : Addr} {vs ws : List V} {xs ys : List D} (q : SqL K B₀ a vs) (t : RpAll K B₀ vs xs) (q2 : SqL K B₀ b ws) (t2 : RpAll K B₀ ws ys) : FolJ K (Itz K a b) B₀ (zipD xs ys) := by
  intro Γ B H σ ds s hH
  have hq : SqL K H a vs := (s.trans hH.bh).seq q
  have hq2 : SqL K H b ws := (s.trans hH.bh).seq q2
  have t' := t.mono s
  have t2' := t2.mono s
  refine ⟨⟨vs, ws, hq, hq2, by rw [t.length, t2.length]; exact zipD_len xs ys⟩, fun i d e => ?_⟩
  obtain ⟨x, y, e1, e2, rfl⟩ := zipD_get _ _ _ _ e
  obtain ⟨v, h1, h2⟩ := t'.get e1
  obtain ⟨w, h3, h4⟩ := t2'.get e2
  refine ⟨⟨vs, ws, v, w, hq, hq2, h1, h3⟩, fun x H' y => ?_⟩
  obtain ⟨T, z1, z2, rfl, n, rfl, y1, y2⟩ := y
  have := y1 vs hq
  rw [h1] at this; cases this
  have := y2 ws hq2
  rw [h3] at this; cases this
  have sb := same_updB (o := HO.tup [v, w]) (hH.bnone n)
  exact ⟨_, sb, hH.new n, .tup (.inl (.inl upd_same)) (.cons (h2.mono sb) (.cons (h4.mono sb) .nil))⟩
@[simp] def eZip (fa fb : DSt → Option D) : DSt → Option (List D) := fun s => ((fa s).bind lstOf).bind fun xs => ((fb s).bind lstOf).map fun ys => zipD xs ys
theorem i_zip {p tpos : Pos} {elts : List Expr} {kk : Nat} (hg : Gl X "zip") (hm : X.mg "zip" = none) (ha : PED X a fa) (hb : PED X b fb) (hs : starEach [a, b] X.env = [(false, eval a X.env), (false, eval b X.env)] := by rfl) (hs2 : starEach [b] X.env = [(false, eval b X.env)] := by rfl) :
    PID X (.Tuple elts kk tpos) (.Call (.Name "zip" p) [a, b] [] pos) (eZip fa fb) := by
  refine piM (pi_zip hg hm (a_cons ha (a_cons hb a_nil hs2) (by rw [hs, hs2])) (by rw [hs, hs2]) (by rw [hs2]; rfl)) fun σ H R h => ?_
  obtain ⟨Γ, B, ds, items, hH, e, k⟩ := h
  obtain ⟨xs, h1, h2⟩ := Option.bind_eq_some_iff.mp e
  obtain ⟨x, h3, h4⟩ := Option.bind_eq_some_iff.mp h1
  obtain ⟨ys, h5, rfl⟩ := Option.map_eq_some_iff.mp h2
  obtain ⟨y, h7, h8⟩ := Option.bind_eq_some_iff.mp h5
  cases lstOf_some h4
  cases lstOf_some h8
  refine ⟨Γ, B, ds, [.list xs, .list ys], hH, by simp [aCons, aNil, h3, h7], fun B1 H1 vs s1 hH1 r1 => ?_⟩
  cases r1 with
  | cons r rr =>
    cases rr with
    | cons r' rr =>
      cases rr
      obtain ⟨p, ws, rfl, q, t⟩ := r.unlst
      obtain ⟨p2, ws2, rfl, q2, t2⟩ := r'.unlst
      exact ⟨p, p2, ws, ws2, rfl, (hH1.bh.seq q), (hH1.bh.seq q2), k _ B1 H1 s1 hH1 (fol_zip q t q2 t2)⟩

/-! ### targets -/
@[simp] def isLent (s : DSt) (i : Nat) : Bool := match s[i]? with
  | some (some (.own _ true)) => true
  | _ => false
/-- a slot is set to data -/
@[simp] def gVal (i : Nat) : D → DSt → Option DSt := fun d s => if i < s.length ∧ isLent s i = false then some (s.set i (some (.val d))) else none
theorem Hold.setVal {K : PySem.W.Frag} {Γ : Ent} {B H : Hp} {σ : L2.St} {ds ds' : DSt} (h : Hold K Γ B H σ ds) {i : Nat} {v : V} {d : D} (r : Rp K B v d) (e : gVal i d ds = some ds') : Hold K Γ B H (σ.set i (some v)) ds' := by
  unfold gVal at e
  split at e
  · rename_i c
    obtain ⟨hi, nl⟩ := c
    cases e
    have hσ : i < σ.length := by rw [h.len]; exact hi
    have out : ∀ (j : Nat) e l, (ds.set i (some (.val d)))[j]? = some (some (.own e l)) → j ≠ i ∧ ds[j]? = some (some (.own e l)) := fun j e l q => by
      by_cases hj : j = i
      · subst hj; rw [List.getElem?_set_self hi] at q; cases q
      · rw [List.getElem?_set_ne (Ne.symm hj)] at q; exact ⟨hj, q⟩
    refine ⟨by rw [List.length_set, List.length_set]; exact h.len, h.bh, h.gb, h.keep, h.fresh, fun j e q => ?_, fun j e l q => ?_, fun j k e f l m a q1 q2 q3 q4 => ?_, fun p hp => ?_, h.lb⟩
    · by_cases hj : j = i
      · subst hj
        rw [List.getElem?_set_self hi] at q
        cases q
        exact ⟨v, by rw [List.getElem?_set_self hσ], r⟩
      · rw [List.getElem?_set_ne (Ne.symm hj)] at q ⊢
        exact h.val j e q
    · obtain ⟨nj, q⟩ := out j e l q
      rw [List.getElem?_set_ne (Ne.symm nj)]
      exact h.own j e l q
    · obtain ⟨nj, q1⟩ := out j e l q1
      obtain ⟨nk, q2⟩ := out k f m q2
      rw [List.getElem?_set_ne (Ne.symm nj)] at q3
      rw [List.getElem?_set_ne (Ne.symm nk)] at q4
      exact h.inj j k e f l m a q1 q2 q3 q4
    · obtain ⟨e, q1, q2⟩ := h.lent p hp
      have np : p.1 ≠ i := fun z => by
        unfold isLent at nl
        rw [← z, q1] at nl
        cases nl
      exact ⟨e, by rw [List.getElem?_set_ne (Ne.symm np)]; exact q1, by rw [List.getElem?_set_ne (Ne.symm np)]; exact q2⟩
  · cases e
/-- the slots vs forgotten -/
@[simp] def wipeD (s : DSt) : List Nat → DSt
  | [] => s
  | v :: vs => (wipeD s vs).set v none
@[simp] def okWipe (s : DSt) (vs : List Nat) : Bool := vs.all fun i => match s[i]? with
  | some (some (.own _ _)) => false
  | _ => true
theorem wipeD_len (s : DSt) : ∀ vs : List Nat, (wipeD s vs).length = s.length
  | [] => rfl
  | v :: vs => by unfold wipeD; rw [List.length_set, wipeD_len s vs]
theorem wipeD_out {s : DSt} {i : Nat} : ∀ {vs : List Nat}, i ∉ vs → (wipeD s vs)[i]? = s[i]?
  | [], _ => rfl
  | v :: vs, h => by
    simp only [List.mem_cons, not_or] at h
    unfold wipeD
    rw [List.getElem?_set_ne (Ne.symm h.1), wipeD_out h.2]
theorem wipeD_in {s : DSt} {i : Nat} {x : L} : ∀ {vs : List Nat}, (wipeD s vs)[i]? = some (some x) → i ∉ vs ∧ s[i]? = some (some x)
  | [], h => ⟨by simp, h⟩
  | v :: vs, h => by
    unfold wipeD at h
    by_cases hi : v = i
    · subst hi
      by_cases hv : v < (wipeD s vs).length
      · rw [List.getElem?_set_self hv] at h; cases h
      · rw [List.getElem?_eq_none (by simpa using hv)] at h; cases h
    · rw [List.getElem?_set_ne hi] at h
      obtain ⟨h1, h2⟩ := wipeD_in h
      exact ⟨by simp only [List.mem_cons, not_or]; exact ⟨fun e => hi e.symm, h1⟩, h2⟩
theorem wipeD_set {s : DSt} {i : Nat} {v : Option L} : ∀ {vs : List Nat}, i ∈ vs → wipeD (s.set i v) vs = wipeD s vs
  | j :: vs, h => by
    unfold wipeD
    by_cases e : i ∈ vs
    · rw [wipeD_set e]
    · have ej : i = j := by
        rcases List.mem_cons.mp h with z | z
        · exact z
        · exact absurd z e
      subst ej
      have : ∀ (s : DSt) (vs : List Nat), i ∉ vs → wipeD (s.set i v) vs = (wipeD s vs).set i v := by
        intro s vs
        induction vs with
        | nil => intro _; rfl
        | cons k vs ih =>
          intro hk
          simp only [List.mem_cons, not_or] at hk
          show ((wipeD (s.set i v) vs).set k none) = ((wipeD s vs).set k none).set i v
          rw [ih hk.2, List.set_comm _ _ hk.1]
      rw [this s vs e, List.set_set]
theorem wipeD_more {s : DSt} : ∀ {vs us : List Nat}, (∀ v ∈ us, v ∈ vs) → wipeD (wipeD s us) vs = wipeD s vs
  | vs, [], _ => rfl
  | vs, u :: us, h => by
    have e : wipeD s (u :: us) = (wipeD s us).set u none := rfl
    rw [e, wipeD_set (h u List.mem_cons_self), wipeD_more fun v hv => h v (List.mem_cons_of_mem _ hv)]
theorem wipeD_idem {s : DSt} {vs : List Nat} : wipeD (wipeD s vs) vs = wipeD s vs := wipeD_more fun _ h => h
theorem okWipe_at {s : DSt} {vs : List Nat} (h : okWipe s vs = true) {i : Nat} {d : D} {l : Bool} (e : s[i]? = some (some (.own d l))) : i ∉ vs := fun hi => by
  have := List.all_eq_true.mp h i hi
  rw [e] at this
  cases this
theorem okWipe_of {s : DSt} {vs : List Nat} (h : ∀ (i : Nat) d l, s[i]? = some (some (.own d l)) → i ∉ vs) : okWipe s vs = true := by
  refine List.all_eq_true.mpr fun i hi => ?_
  split
  · rename_i d l e
    exact absurd hi (h i d l e)
  · rfl
/-- what a store changes: the slots vs alone -/
def PGD (X : Cx) (tg : Expr) (vs : List Nat) (g : D → DSt → Option DSt) : Prop := (∀ d s s', g d s = some s' → okWipe s vs = true → okWipe s' vs = true ∧ wipeD s' vs = wipeD s vs) ∧ PG X tg fun v σ H Q => ∃ Γ B ds d ds', Hold X.K Γ B H σ ds ∧ Rp X.K B v d ∧ g d ds = some ds' ∧
  ∀ B' H' σ', Same B B' → Hold X.K Γ B' H' σ' ds' → wipe σ' vs = wipe σ vs → Q σ' H'
theorem pgM {tg : Expr} {t t' : TG} (h : PG X tg t) (i : ∀ v σ H Q, t' v σ H Q → t v σ H Q) : PG X tg t' := ⟨fun pins s σ H v u Q I r hw => h.run pins s σ H v u Q I r (i v σ H Q hw)⟩
theorem wipe_set {σ : L2.St} {i : Nat} {v : Option V} : ∀ {vs : List Nat}, i ∈ vs → wipe (σ.set i v) vs = wipe σ vs
  | j :: vs, h => by
    unfold wipe
    by_cases e : i ∈ vs
    · rw [wipe_set e]
    · have ej : i = j := by
        rcases List.mem_cons.mp h with z | z
        · exact z
        · exact absurd z e
      subst ej
      have : ∀ (σ : L2.St) (vs : List Nat), i ∉ vs → wipe (σ.set i v) vs = (wipe σ vs).set i v := by
        intro σ vs
        induction vs with
        | nil => intro _; rfl
        | cons k vs ih =>
          intro hk
          simp only [List.mem_cons, not_or] at hk
          show ((wipe (σ.set i v) vs).set k none) = ((wipe σ vs).set k none).set i v
          rw [ih hk.2, List.set_comm _ _ hk.1]
      rw [this σ vs e, List.set_set]
theorem g_name {i : Nat} {x : Str} {p : Pos} {vs : List Nat} (h : PG X (.Name x p) (gName i)) (hv : i ∈ vs) : PGD X (.Name x p) vs (gVal i) := by
  refine ⟨fun d s s' e ok => ?_, pgM h fun v σ H Q q => ?_⟩
  · unfold gVal at e
    split at e
    · cases e
      refine ⟨okWipe_of fun j f l q => ?_, wipeD_set hv⟩
      by_cases hj : j = i
      · subst hj
        rename_i c
        rw [List.getElem?_set_self c.1] at q; cases q
      · rw [List.getElem?_set_ne (Ne.symm hj)] at q
        exact okWipe_at ok q
    · cases e
  obtain ⟨Γ, B, ds, d, ds', hH, r, e, k⟩ := q
  exact k B H _ (Same.refl B) (hH.setVal r e) (wipe_set hv)
def PGsD (X : Cx) (ts : List Expr) (vs : List Nat) (g : List D → DSt → Option DSt) : Prop := (∀ d s s', g d s = some s' → okWipe s vs = true → okWipe s' vs = true ∧ wipeD s' vs = wipeD s vs) ∧ PGs X ts fun ws σ H Q => ∃ Γ B ds l ds', Hold X.K Γ B H σ ds ∧ RpAll X.K B ws l ∧ g l ds = some ds' ∧
  ∀ B' H' σ', Same B B' → Hold X.K Γ B' H' σ' ds' → wipe σ' vs = wipe σ vs → Q σ' H'
theorem pgsM {ts : List Expr} {t t' : TGs} (h : PGs X ts t) (i : ∀ v σ H Q, t' v σ H Q → t v σ H Q) : PGs X ts t' := ⟨fun pins s σ H v u Q I r hw => h.run pins s σ H v u Q I r (i v σ H Q hw)⟩
@[simp] def gsNil : List D → DSt → Option DSt
  | [], s => some s
  | _, _ => none
@[simp] def gsCons (g : D → DSt → Option DSt) (gs : List D → DSt → Option DSt) : List D → DSt → Option DSt
  | d :: l, s => (g d s).bind (gs l)
  | [], _ => none
theorem gs_nil {vs : List Nat} : PGsD X [] vs gsNil := by
  refine ⟨fun d s s' e ok => ?_, pgsM pgs_nil fun ws σ H Q q => ?_⟩
  · cases d <;> cases e
    exact ⟨ok, rfl⟩
  obtain ⟨Γ, B, ds, l, ds', hH, r, e, k⟩ := q
  cases r with
  | nil => cases e; exact ⟨rfl, k B H σ (Same.refl B) hH rfl⟩
  | cons _ _ => cases e
theorem gs_cons {t : Expr} {ts : List Expr} {vs : List Nat} {g : D → DSt → Option DSt} {gs : List D → DSt → Option DSt} (h1 : PGD X t vs g) (h2 : PGsD X ts vs gs)
    (hs : (assignEach (t :: ts) X.env).map (·.2) = assign t X.env :: (assignEach ts X.env).map (·.2) := by rfl) : PGsD X (t :: ts) vs (gsCons g gs) := by
  refine ⟨fun d s s' e ok => ?_, pgsM (pgs_cons h1.2 h2.2 hs) fun ws σ H Q q => ?_⟩
  · cases d with
    | nil => cases e
    | cons d l =>
      obtain ⟨s1, e1, e2⟩ := Option.bind_eq_some_iff.mp e
      obtain ⟨o1, w1⟩ := h1.1 _ _ _ e1 ok
      obtain ⟨o2, w2⟩ := h2.1 _ _ _ e2 o1
      exact ⟨o2, w2.trans w1⟩
  obtain ⟨Γ, B, ds, l, ds', hH, r, e, k⟩ := q
  cases r with
  | nil => cases e
  | cons r rr =>
    obtain ⟨s1, e1, e2⟩ := Option.bind_eq_some_iff.mp e
    exact ⟨_, _, rfl, Γ, B, ds, _, s1, hH, r, e1, fun B1 H1 σ1 sb hH1 w1 => ⟨Γ, B1, s1, _, ds', hH1, rr.mono sb, e2, fun B2 H2 σ2 sb2 hH2 w2 => k B2 H2 σ2 (sb.trans sb2) hH2 (w2.trans w1)⟩⟩
/-- a tuple of that many parts -/
@[simp] def gTupD (n : Nat) (gs : List D → DSt → Option DSt) : D → DSt → Option DSt
  | .tuple l, s => if l.length = n then gs l s else none
  | _, _ => none
theorem g_tup {ts : List Expr} {kk n : Nat} {vs : List Nat} {gs : List D → DSt → Option DSt} (hc : X.calm = true) (h : PGsD X ts vs gs)
    (hn : (assignEach ts X.env).length = n := by rfl) (hst : (assignEach ts X.env).findIdx? (·.1) = none := by rfl) : PGD X (.Tuple ts kk pos) vs (gTupD n gs) := by
  refine ⟨fun d s s' e ok => ?_, pgM (pg_tup hc h.2 hn hst) fun v σ H Q q => ?_⟩
  · unfold gTupD at e
    split at e
    · split at e
      · exact h.1 _ _ _ e ok
      · cases e
    · cases e
  obtain ⟨Γ, B, ds, d, ds', hH, r, e, k⟩ := q
  unfold gTupD at e
  split at e
  · split at e
    · rename_i hl
      obtain ⟨p, xs, rfl, q, t⟩ := r.untup
      exact ⟨p, xs, rfl, sameT hH.bh q, by rw [t.length]; exact hl, Γ, B, ds, _, ds', hH, t, e, k⟩
    · cases e
  · cases e
end
end DL

set_option Elab.async false
set_option linter.all false
set_option autoImplicit false
set_option maxRecDepth 100000
set_option maxHeartbeats 4000000
namespace DL
open PySem PySem.Spec PyProof.Rows L2

/-! ### statements -/
inductive Fl where
  | nx (s : DSt)
  | ret (d : D) (s : DSt)
  | retF (d : D) (s : DSt)
  | bk (s : DSt)
  | ct (s : DSt)
def FinOk (K : PySem.W.Frag) (Γ : Ent) (B : Hp) (D : Ends) : Fl → Prop
  | .nx s => ∀ B' H' σ', Same B B' → Hold K Γ B' H' σ' s → D.nx σ' H'
  | .bk s => ∀ B' H' σ', Same B B' → Hold K Γ B' H' σ' s → D.bk σ' H'
  | .ct s => ∀ B' H' σ', Same B B' → Hold K Γ B' H' σ' s → D.ct σ' H'
  | .ret d s => ∀ B' H' σ' v, Same B B' → Hold K Γ B' H' σ' s → Rp K B' v d → D.rt v H'
  | .retF d s => ∀ B' H' σ' a, Same B B' → Hold K Γ B' H' σ' s → NewOwn K Γ B' H' σ' s a d → D.rt (.ref a) H'
theorem FinOk.up {K : PySem.W.Frag} {Γ : Ent} {B B1 : Hp} {D : Ends} {f : Fl} (s : Same B B1) (h : FinOk K Γ B D f) : FinOk K Γ B1 D f := by
  cases f with
  | nx _ => exact fun B' H' σ' s' => h B' H' σ' (s.trans s')
  | bk _ => exact fun B' H' σ' s' => h B' H' σ' (s.trans s')
  | ct _ => exact fun B' H' σ' s' => h B' H' σ' (s.trans s')
  | ret _ _ => exact fun B' H' σ' v s' => h B' H' σ' v (s.trans s')
  | retF _ _ => exact fun B' H' σ' v s' => h B' H' σ' v (s.trans s')
def tS (K : PySem.W.Frag) (F : DSt → Option Fl) : TS := fun D σ H => ∃ Γ B ds fl, Hold K Γ B H σ ds ∧ F ds = some fl ∧ FinOk K Γ B D fl
def PSD (X : Cx) (st : Stmt) (F : DSt → Option Fl) : Prop := PS X st (tS X.K F)
def PSsD (X : Cx) (st : List Stmt) (F : DSt → Option Fl) : Prop := PSs X st (tS X.K F)

@[simp] def sNil : DSt → Option Fl := fun s => some (.nx s)
@[simp] def sSeq (F G : DSt → Option Fl) : DSt → Option Fl := fun s => (F s).bind fun
  | .nx s' => G s'
  | f => some f
section
variable {X : Cx} {st : Stmt} {sts : List Stmt} {F G : DSt → Option Fl} {e a b : Expr} {fa fb : DSt → Option D} {pos : Pos}
theorem ss_nil : PSsD X [] sNil := by
  refine pssM pss_nil fun D σ H q => ?_
  obtain ⟨Γ, B, ds, fl, hH, e, k⟩ := q
  cases e
  exact k B H σ (Same.refl B) hH
theorem seq_go {K : PySem.W.Frag} {D : Ends} {σ : L2.St} {H : Hp} (q : tS K (sSeq F G) D σ H) : tSeq (tS K F) (tS K G) D σ H := by
  obtain ⟨Γ, B, ds, fl, hH, e, k⟩ := q
  obtain ⟨f1, h1, h2⟩ := Option.bind_eq_some_iff.mp e
  refine ⟨Γ, B, ds, f1, hH, h1, ?_⟩
  cases f1 with
  | nx s => exact fun B' H' σ' s' hH' => ⟨Γ, B', s, fl, hH', h2, k.up s'⟩
  | ret d s => cases h2; exact k
  | retF d s => cases h2; exact k
  | bk s => cases h2; exact k
  | ct s => cases h2; exact k
theorem ss_cons (h1 : PSD X st F) (h2 : PSsD X sts G) : PSsD X (st :: sts) (sSeq F G) := pssM (pss_cons h1 h2) fun _ _ _ q => seq_go q
theorem ss_one (h1 : PSD X st F) : PSsD X [st] F := pss_one h1
@[simp] def sPass : DSt → Option Fl := fun s => some (.nx s)
@[simp] def sBreak : DSt → Option Fl := fun s => some (.bk s)
@[simp] def sCont : DSt → Option Fl := fun s => some (.ct s)
theorem s_pass : PSD X (.Pass pos) sPass := by
  refine psM ps_pass fun D σ H q => ?_
  obtain ⟨Γ, B, ds, fl, hH, e, k⟩ := q
  cases e
  exact k B H σ (Same.refl B) hH
theorem s_break : PSD X (.Break pos) sBreak := by
  refine psM ps_break fun D σ H q => ?_
  obtain ⟨Γ, B, ds, fl, hH, e, k⟩ := q
  cases e
  exact k B H σ (Same.refl B) hH
theorem s_cont : PSD X (.Continue pos) sCont := by
  refine psM ps_continue fun D σ H q => ?_
  obtain ⟨Γ, B, ds, fl, hH, e, k⟩ := q
  cases e
  exact k B H σ (Same.refl B) hH
@[simp] def sRet (f : DSt → Option D) : DSt → Option Fl := fun s => (f s).map fun d => .ret d s
theorem s_ret (ha : PED X a fa) : PSD X (.Return (some a) pos) (sRet fa) := by
  refine psM (ps_ret ha) fun D σ H q => ?_
  obtain ⟨Γ, B, ds, fl, hH, e, k⟩ := q
  obtain ⟨d, h1, rfl⟩ := Option.map_eq_some_iff.mp e
  exact ⟨Γ, B, ds, d, hH, h1, fun B1 H1 v s1 hH1 r1 => k B1 H1 σ v s1 hH1 r1⟩
@[simp] def sRetF (f : DSt → Option D) : DSt → Option Fl := fun s => (f s).map fun d => .retF d s
theorem s_retF (ha : PFD X a fa) : PSD X (.Return (some a) pos) (sRetF fa) := by
  refine psM (ps_ret ha) fun D σ H q => ?_
  obtain ⟨Γ, B, ds, fl, hH, e, k⟩ := q
  obtain ⟨d, h1, rfl⟩ := Option.map_eq_some_iff.mp e
  exact ⟨Γ, B, ds, d, hH, h1, fun B1 H1 v s1 hH1 r1 => k B1 H1 σ v s1 hH1 r1⟩
/-- an own local is handed out -/
@[simp] def sRetO (i : Nat) : DSt → Option Fl := fun s => match s[i]? with
  | some (some (.own d false)) => some (.retF d (s.set i none))
  | _ => none
theorem s_retO {i : Nat} {x : Str} {p : Pos} (h : PE X (.Name x p) (tVar i)) : PSD X (.Return (some (.Name x p)) pos) (sRetO i) := by
  refine psM (ps_ret h) fun D σ H q => ?_
  obtain ⟨Γ, B, ds, fl, hH, e, k⟩ := q
  unfold sRetO at e
  split at e
  · rename_i d hd
    cases e
    obtain ⟨a, e1, e2, e3, e4, _⟩ := hH.own i d false hd
    have hi : i < ds.length := (List.getElem?_eq_some_iff.mp hd).1
    have out : ∀ (j : Nat) x, (ds.set i none)[j]? = some (some x) → ds[j]? = some (some x) ∧ j ≠ i := fun j x q => by
      by_cases hj : j = i
      · subst hj; rw [List.getElem?_set_self hi] at q; cases q
      · rw [List.getElem?_set_ne (Ne.symm hj)] at q; exact ⟨q, hj⟩
    refine ⟨_, e1, k B H σ a (Same.refl B) ⟨by rw [List.length_set]; exact hH.len, hH.bh, hH.gb, hH.keep, hH.fresh, fun j e q => hH.val j e (out j _ q).1, fun j e l q => hH.own j e l (out j _ q).1, fun j k e f l m b q1 q2 => hH.inj j k e f l m b (out j _ q1).1 (out k _ q2).1, fun p hp => ?_, hH.lb⟩ ⟨e2, e3, e4 rfl, fun j e l q z => ?_⟩⟩
    · obtain ⟨e, q1, q2⟩ := hH.lent p hp
      refine ⟨e, ?_, q2⟩
      have : p.1 ≠ i := fun z => by rw [z, hd] at q1; cases q1
      rw [List.getElem?_set_ne (Ne.symm this)]
      exact q1
    · obtain ⟨q, nj⟩ := out j _ q
      exact nj (hH.inj j i e d l false a q hd z e1)
  · cases e
@[simp] def sRetN : DSt → Option Fl := fun s => some (.ret .none s)
theorem s_retN : PSD X (.Return none pos) sRetN := by
  refine psM ps_retN fun D σ H q => ?_
  obtain ⟨Γ, B, ds, fl, hH, e, k⟩ := q
  cases e
  exact k B H σ .non (Same.refl B) hH .non
@[simp] def sIf (c : DSt → Option Bool) (F G : DSt → Option Fl) : DSt → Option Fl := fun s => (c s).bind fun b => if b = true then F s else G s
theorem s_if {c : Expr} {p q : List Stmt} {fc : DSt → Option Bool} (hc : PTD X c fc) (ha : PSsD X p F) (hb : PSsD X q G) : PSD X (.If c p q pos) (sIf fc F G) := by
  refine psM (ps_if hc ha hb) fun D σ H q => ?_
  obtain ⟨Γ, B, ds, fl, hH, e, k⟩ := q
  obtain ⟨b, h1, h2⟩ := Option.bind_eq_some_iff.mp e
  refine ⟨Γ, B, ds, b, hH, h1, fun B1 H1 s1 hH1 => ?_⟩
  cases b with
  | true => exact iteT ⟨Γ, B1, ds, fl, hH1, h2, k.up s1⟩
  | false => exact iteF ⟨Γ, B1, ds, fl, hH1, h2, k.up s1⟩
/-- frozen ahead of a statement: the own locals at i -/
@[simp] def sFrz (i : Nat) (F : DSt → Option Fl) : DSt → Option Fl := fun s => F (frz1 s i)
theorem s_frz {i : Nat} (h : PSD X st F) : PSD X st (sFrz i F) := by
  refine psM h fun D σ H q => ?_
  obtain ⟨Γ, B, ds, fl, hH, e, k⟩ := q
  obtain ⟨B', s, h'⟩ := hH.freeze i
  exact ⟨Γ, B', _, fl, h', e, k.up s⟩
/-- name = data -/
@[simp] def sSet (i : Nat) (f : DSt → Option D) : DSt → Option Fl := fun s => (f s).bind fun d => (gVal i d s).map .nx
theorem set_go {i : Nat} {D : Ends} {σ : L2.St} {H : Hp} (q : tS X.K (sSet i fa) D σ H) : tAsg (tE X.K fa) (gName i) D σ H := by
  obtain ⟨Γ, B, ds, fl, hH, e, k⟩ := q
  obtain ⟨d, h1, h2⟩ := Option.bind_eq_some_iff.mp e
  obtain ⟨s', h3, rfl⟩ := Option.map_eq_some_iff.mp h2
  exact ⟨Γ, B, ds, d, hH, h1, fun B1 H1 v s1 hH1 r1 => k B1 H1 _ s1 (hH1.setVal r1 h3)⟩
theorem s_asg {tg : Expr} {vs : List Nat} {g : D → DSt → Option DSt} (ha : PED X a fa) (hg : PGD X tg vs g) (hs : swapsWithSole [tg] a pos.line X.env = pure false := by rfl) (hw : swappedStores [tg] a X.env = pure none := by rfl)
    (h1 : (assignEach [tg] X.env).map (·.2) = [assign tg X.env] := by rfl) : PSD X (.Assign [tg] a pos) (fun s => (fa s).bind fun d => (g d s).map .nx) := by
  refine psM (ps_asg ha hg.2 hs hw h1) fun D σ H q => ?_
  obtain ⟨Γ, B, ds, fl, hH, e, k⟩ := q
  obtain ⟨d, h1, h2⟩ := Option.bind_eq_some_iff.mp e
  obtain ⟨s', h3, rfl⟩ := Option.map_eq_some_iff.mp h2
  exact ⟨Γ, B, ds, d, hH, h1, fun B1 H1 v s1 hH1 r1 => ⟨Γ, B1, ds, d, s', hH1, r1, h3, fun B2 H2 σ2 s2 hH2 _ => k B2 H2 σ2 (s1.trans s2) hH2⟩⟩
theorem s_set {i : Nat} {x : Str} {p : Pos} (hN : X.N.Nodup) (hi : X.N[i]? = some x) (hx : Loc X.env.scope x) (hf : X.fn x = true ∨ X.env.scope.names.lookup x = some .local) (ha : PED X a fa) (hs : swapsWith a (some (.Name x p)) pos.line X.env = pure false := by rfl) :
    PSD X (.Assign [.Name x p] a pos) (sSet i fa) := psM (ps_set hN hi hx ha hs hf) fun _ _ _ q => set_go q
/-- name = a new list or dict that the def changes -/
@[simp] def gOwn (i : Nat) : D → DSt → Option DSt := fun d s => if i < s.length ∧ isLent s i = false then some (s.set i (some (.own d false))) else none
theorem Hold.setOwn {K : PySem.W.Frag} {Γ : Ent} {B H : Hp} {σ : L2.St} {ds ds' : DSt} (h : Hold K Γ B H σ ds) {i : Nat} {a : Addr} {d : D} (w : NewOwn K Γ B H σ ds a d) (e : gOwn i d ds = some ds') : Hold K Γ B H (σ.set i (some (.ref a))) ds' := by
  unfold gOwn at e
  split at e
  · rename_i c
    obtain ⟨hi, nl⟩ := c
    cases e
    have hσ : i < σ.length := by rw [h.len]; exact hi
    have out : ∀ (j : Nat) e l, (ds.set i (some (.own d false)))[j]? = some (some (.own e l)) → j ≠ i → ds[j]? = some (some (.own e l)) := fun j e l q hj => by
      rw [List.getElem?_set_ne (Ne.symm hj)] at q; exact q
    refine ⟨by rw [List.length_set, List.length_set]; exact h.len, h.bh, h.gb, h.keep, h.fresh, fun j e q => ?_, fun j e l q => ?_, fun j k e f l m b q1 q2 q3 q4 => ?_, fun p hp => ?_, h.lb⟩
    · by_cases hj : j = i
      · subst hj; rw [List.getElem?_set_self hi] at q; cases q
      · rw [List.getElem?_set_ne (Ne.symm hj)] at q ⊢
        exact h.val j e q
    · by_cases hj : j = i
      · subst hj
        rw [List.getElem?_set_self hi] at q
        cases q
        exact ⟨a, by rw [List.getElem?_set_self hσ], w.b, w.at_, fun _ => w.g, fun z => by cases z⟩
      · have q' := out j e l q hj
        rw [List.getElem?_set_ne (Ne.symm hj)]
        exact h.own j e l q'
    · by_cases hj : j = i
      · by_cases hk : k = i
        · rw [hj, hk]
        · subst hj
          rw [List.getElem?_set_self hσ] at q3
          cases q3
          rw [List.getElem?_set_ne (Ne.symm hk)] at q4
          exact absurd q4 (w.ne k f m (out k f m q2 hk))
      · by_cases hk : k = i
        · subst hk
          rw [List.getElem?_set_self hσ] at q4
          cases q4
          rw [List.getElem?_set_ne (Ne.symm hj)] at q3
          exact absurd q3 (w.ne j e l (out j e l q1 hj))
        · rw [List.getElem?_set_ne (Ne.symm hj)] at q3
          rw [List.getElem?_set_ne (Ne.symm hk)] at q4
          exact h.inj j k e f l m b (out j e l q1 hj) (out k f m q2 hk) q3 q4
    · obtain ⟨e, q1, q2⟩ := h.lent p hp
      have np : p.1 ≠ i := fun z => by
        unfold isLent at nl
        rw [← z, q1] at nl
        cases nl
      exact ⟨e, by rw [List.getElem?_set_ne (Ne.symm np)]; exact q1, by rw [List.getElem?_set_ne (Ne.symm np)]; exact q2⟩
  · cases e
@[simp] def sOwn (i : Nat) (f : DSt → Option D) : DSt → Option Fl := fun s => (f s).bind fun d => (gOwn i d s).map .nx
theorem own_go {i : Nat} {D : Ends} {σ : L2.St} {H : Hp} (q : tS X.K (sOwn i fa) D σ H) : tAsg (tF X.K fa) (gName i) D σ H := by
  obtain ⟨Γ, B, ds, fl, hH, e, k⟩ := q
  obtain ⟨d, h1, h2⟩ := Option.bind_eq_some_iff.mp e
  obtain ⟨s', h3, rfl⟩ := Option.map_eq_some_iff.mp h2
  exact ⟨Γ, B, ds, d, hH, h1, fun B1 H1 a s1 hH1 w1 => k B1 H1 _ s1 (hH1.setOwn w1 h3)⟩
theorem s_own {i : Nat} {x : Str} {p : Pos} (hN : X.N.Nodup) (hi : X.N[i]? = some x) (hx : Loc X.env.scope x) (hf : X.fn x = true ∨ X.env.scope.names.lookup x = some .local) (ha : PFD X a fa) (hs : swapsWith a (some (.Name x p)) pos.line X.env = pure false := by rfl) :
    PSD X (.Assign [.Name x p] a pos) (sOwn i fa) := psM (ps_set hN hi hx ha hs hf) fun _ _ _ q => own_go q
/-- an expression whose value is dropped -/
@[simp] def sDrop (f : DSt → Option D) : DSt → Option Fl := fun s => (f s).map fun _ => .nx s
theorem s_expr (ha : PED X a fa) (hs : swapsWith a none pos.line X.env = pure false := by rfl) : PSD X (.Expr a pos) (sDrop fa) := by
  refine psM (ps_expr ha hs) fun D σ H q => ?_
  obtain ⟨Γ, B, ds, fl, hH, e, k⟩ := q
  obtain ⟨d, h1, rfl⟩ := Option.map_eq_some_iff.mp e
  exact ⟨Γ, B, ds, d, hH, h1, fun B1 H1 v s1 hH1 r1 => k B1 H1 σ s1 hH1⟩
/-- name op= e -/
@[simp] def sAug (i : Nat) (g : D → D → Option D) (f : DSt → Option D) : DSt → Option Fl := fun s => (vE i s).bind fun x => (f s).bind fun y => (g x y).bind fun d => (gVal i d s).map .nx
theorem s_aug {i : Nat} {x : Str} {p : Pos} {op : Operator} {r : R2} {g : D → D → Option D} (hN : X.N.Nodup) (hi : X.N[i]? = some x) (hx : Loc X.env.scope x) (hf : X.fn x = true ∨ X.env.scope.names.lookup x = some .local) (ho : OpR X (inplaceOp op) r) (hr : OpD X.K r g) (ha : PED X a fa) :
    PSD X (.AugAssign (.Name x p) op a pos) (sAug i g fa) := by
  refine psM (ps_aug (ti := r) hN hi hx ha (fun pins s σ H x y v u Q I r1 r2 h => ho pins s σ H x y v u Q I r1 r2 h) hf) fun D σ H q => ?_
  obtain ⟨Γ, B, ds, fl, hH, e, k⟩ := q
  obtain ⟨dx, h1, e⟩ := Option.bind_eq_some_iff.mp e
  obtain ⟨dy, h2, e⟩ := Option.bind_eq_some_iff.mp e
  obtain ⟨d, h3, e⟩ := Option.bind_eq_some_iff.mp e
  obtain ⟨s', h4, rfl⟩ := Option.map_eq_some_iff.mp e
  obtain ⟨v, e1, rv⟩ := hH.val i dx (vE_some h1)
  refine ⟨v, e1, Γ, B, ds, dy, hH, h2, fun B1 H1 u s1 hH1 r1 => ?_⟩
  refine hr Γ B1 H1 σ ds v u dx dy d _ hH1 (rv.mono s1) r1 h3 fun B2 H2 w s2 hH2 r2 => ?_
  exact k B2 H2 _ (s1.trans s2) (hH2.setVal r2 h4)
def rIAdd : R2 := fun x y H Q => rI0 (fun i j => .int (i + j)) x y H Q ∨ ∃ i j, x = .str i ∧ y = .str j ∧ i.length + j.length ≤ sizeLine ∧ Q (.str (i ++ j)) H
theorem iop_addD : OpR X (inplaceOp .Add) rIAdd := iop_add.or iop_add_str
@[simp] def dIAdd : D → D → Option D
  | .int i, .int j => some (.int (i + j))
  | .str x, .str y => if x.length + y.length ≤ sizeLine then some (.str (x ++ y)) else none
  | _, _ => none
theorem dIAdd_ok {K : PySem.W.Frag} : OpD K rIAdd dIAdd := by
  intro Γ B H σ ds v u x y d Q hH r1 r2 h k
  unfold dIAdd at h
  split at h
  · cases h; cases r1; cases r2
    exact .inl ⟨_, _, rfl, rfl, k B H _ (Same.refl B) hH (.int _)⟩
  · split at h
    · rename_i hl
      cases h; cases r1 with | str _ h1 => cases r2 with | str _ h2 =>
      exact .inr ⟨_, _, rfl, rfl, hl, k B H _ (Same.refl B) hH (.str _ (sOk_app hl h1 h2))⟩
    · cases h
  · cases h
theorem dISub_ok {K : PySem.W.Frag} : OpD K (rI0 fun i j => .int (i - j)) dSub := dSub_ok

/-! ### own lists changed -/
@[simp] def ownL (s : DSt) (i : Nat) : Option (List D × Bool) := match s[i]? with
  | some (some (.own (.list xs) l)) => some (xs, l)
  | _ => none
theorem ownL_some {s : DSt} {i : Nat} {xs : List D} {l : Bool} (h : ownL s i = some (xs, l)) : s[i]? = some (some (.own (.list xs) l)) := by
  unfold ownL at h
  split at h
  · rename_i e; cases h; exact e
  · cases h
/-- an own object's content is changed -/
theorem Hold.write {K : PySem.W.Frag} {Γ : Ent} {B H : Hp} {σ : L2.St} {ds : DSt} (h : Hold K Γ B H σ ds) {i : Nat} {a : Addr} {d d' : D} {l : Bool} {o : HO} (e : ds[i]? = some (some (.own d l))) (ha : σ[i]? = some (some (.ref a))) (hn : OwnAt K B (upd H a o) a d') :
    Hold K Γ B (upd H a o) σ (ds.set i (some (.own d' l))) := by
  obtain ⟨a', e1, e2, e3, e4, e5⟩ := h.own i d l e
  have : a' = a := by rw [ha] at e1; cases e1; rfl
  subst this
  have hi : i < ds.length := (List.getElem?_eq_some_iff.mp e).1
  have old : ∀ (j : Nat) f m, (ds.set i (some (.own d' l)))[j]? = some (some (.own f m)) → ∃ f', ds[j]? = some (some (.own f' m)) := fun j f m q => by
    by_cases hj : j = i
    · subst hj; rw [List.getElem?_set_self hi] at q; cases q; exact ⟨d, e⟩
    · rw [List.getElem?_set_ne (Ne.symm hj)] at q; exact ⟨f, q⟩
  refine ⟨by rw [List.length_set]; exact h.len, fun b u q => ?_, h.gb, fun b u q hl => ?_, h.fresh, fun j f q => ?_, fun j f m q => ?_, fun j k f g m n b q1 q2 q3 q4 => ?_, fun p hp => ?_, h.lb⟩
  · rw [upd_ne (ne_of_none q e2)]; exact h.bh _ _ q
  · have nb : b ≠ a' := fun z => by
      subst z
      cases l with
      | false => rw [e4 rfl] at q; cases q
      | true => exact hl i (e5 rfl)
    rw [upd_ne nb]; exact h.keep b u q hl
  · by_cases hj : j = i
    · subst hj; rw [List.getElem?_set_self hi] at q; cases q
    · rw [List.getElem?_set_ne (Ne.symm hj)] at q; exact h.val j f q
  · by_cases hj : j = i
    · subst hj
      rw [List.getElem?_set_self hi] at q
      cases q
      exact ⟨a', ha, e2, hn, e4, e5⟩
    · rw [List.getElem?_set_ne (Ne.symm hj)] at q
      obtain ⟨b, f1, f2, f3, f4⟩ := h.own j f m q
      have nb : b ≠ a' := fun z => hj (h.inj j i f d m l b q e f1 (by rw [z]; exact ha))
      exact ⟨b, f1, f2, f3.heap fun o' q' => by rw [upd_ne nb]; exact q', f4⟩
  · obtain ⟨f', q1⟩ := old j f m q1
    obtain ⟨g', q2⟩ := old k g n q2
    exact h.inj j k f' g' m n b q1 q2 q3 q4
  · obtain ⟨f, q1, q2⟩ := h.lent p hp
    by_cases hj : p.1 = i
    · rw [hj, e] at q1
      cases q1
      exact ⟨d', by rw [hj, List.getElem?_set_self hi], q2⟩
    · exact ⟨f, by rw [List.getElem?_set_ne (Ne.symm hj)]; exact q1, q2⟩
@[simp] def sApp (i : Nat) (f : DSt → Option D) : DSt → Option Fl := fun s => (f s).bind fun x => (ownL s i).bind fun p => if p.1.length < sizeLine then some (.nx (s.set i (some (.own (.list (p.1 ++ [x])) p.2)))) else none
theorem s_append {i : Nat} {x : Str} {p ap : Pos} {cpos : Pos} (hv : PE X (.Name x p) (tVar i)) (ha : PED X a fa) (hs : starEach [a] X.env = (false, eval a X.env) :: starEach [] X.env := by rfl)
    (hbase : attributeBase (.Name x p) "append" X.env (eval (.Name x p) X.env) = eval (.Name x p) X.env := by rfl)
    (hfew : ((backTo cpos (starEach [a] X.env)).all (fun x => !x.1) && (backToKw cpos (keywordEach [] X.env)).all (fun x => x.1.isSome) && decide (([a] : List Expr).length + ([] : List Keyword).length + (if ([] : List Keyword).isEmpty then 0 else 1) < 30)) = true := by rfl)
    (hline : (ap.endLine == cpos.line) = true := by rfl) (hplain : (backTo cpos (starEach [] X.env)).any (·.1) = false := by rfl) : PSD X (.Expr (.Call (.Attribute (.Name x p) "append" ap) [a] [] cpos) pos) (sApp i fa) := by
  refine psM (ps_expr (pe_bm PySem.F.plainAttrs_list PySem.F.slot_list_append PySem.F.type_list_append mt_append hv (a_cons ha a_nil hs) hbase hfew hline hs hplain) rfl) fun D σ H q => ?_
  obtain ⟨Γ, B, ds, fl, hH, e, k⟩ := q
  obtain ⟨dx, h1, e⟩ := Option.bind_eq_some_iff.mp e
  obtain ⟨⟨xs, l⟩, h2, e⟩ := Option.bind_eq_some_iff.mp e
  split at e
  · rename_i hl
    cases e
    have hd := ownL_some h2
    obtain ⟨a', e1, e2, ⟨vs, e3, e4⟩, e5⟩ := hH.own i _ l hd
    refine ⟨_, e1, .inl ⟨rfl, _, .inl (.inl e3)⟩, Γ, B, ds, [dx], hH, by simp [aCons, aNil, h1], fun B1 H1 ws s1 hH1 r1 => ?_⟩
    cases r1 with
    | cons r rr =>
      cases rr
      obtain ⟨a2, f1, f2, ⟨vs2, f3, f4⟩, f5⟩ := hH1.own i _ l hd
      have : a2 = a' := by rw [e1] at f1; cases f1; rfl
      subst this
      refine ⟨a2, vs2, _, rfl, rfl, f3, by rw [f4.length]; exact hl, ?_⟩
      exact k B1 _ σ s1 (hH1.write hd f1 ⟨_, upd_same, f4.append (.cons r .nil)⟩)
  · cases e

/-! ### for, while -/
def loopD (g : D → DSt → Option DSt) (body : DSt → Option Fl) : List D → DSt → Option Fl
  | [], s => some (.nx s)
  | x :: r, s => (g x s).bind fun s1 => (body s1).bind fun
    | .nx s2 => loopD g body r s2
    | .ct s2 => loopD g body r s2
    | .bk s2 => some (.nx s2)
    | f => some f
@[simp] def sFor (it : DSt → Option (List D)) (g : D → DSt → Option DSt) (body : DSt → Option Fl) : DSt → Option Fl := fun s => (it s).bind fun items => loopD g body items s
theorem s_for {tg iter : Expr} {vs : List Nat} {body : List Stmt} {fi : DSt → Option (List D)} {g : D → DSt → Option DSt} (hp : PassesOwn (model X.prog X.w) X.A X.env X.xe) (hc : X.calm = true) (hi : PID X tg iter fi) (hg : PGD X tg vs g) (hb : PSsD X body F)
    (hs : ∀ x, foldedSetIterable iter X.env x = pure x := by intro _; rfl) : PSD X (.For tg iter body [] pos) (sFor fi g F) := by
  refine psM (ps_for hp hc hi hg.2 hb hs) fun D σ H q => ?_
  obtain ⟨Γ, B, ds, fl, hH, e, k⟩ := q
  obtain ⟨items, h1, h2⟩ := Option.bind_eq_some_iff.mp e
  refine ⟨Γ, B, ds, items, hH, h1, fun J B1 H1 s1 hH1 fol => ?_⟩
  refine ⟨fun i m σ H => ∃ B' ds', m = items.length - i ∧ i ≤ items.length ∧ Same B1 B' ∧ Hold X.K Γ B' H σ ds' ∧ loopD g F (items.drop i) ds' = some fl, ⟨items.length, B1, ds, rfl, Nat.zero_le _, Same.refl _, hH1, h2⟩, ?_⟩
  rintro i m σ H ⟨B', ds', rfl, hi, sb, hH', h3⟩
  obtain ⟨fs, fi⟩ := fol Γ B' H σ ds' sb hH'
  have k' := k.up (s1.trans sb)
  by_cases hlt : i < items.length
  · obtain ⟨d, hd⟩ : ∃ d, items[i]? = some d := ⟨_, List.getElem?_eq_getElem hlt⟩
    obtain ⟨go, yl⟩ := fi i d hd
    have edrop : items.drop i = d :: items.drop (i + 1) := by
      rw [List.drop_eq_getElem_cons hlt]
      rw [List.getElem?_eq_getElem hlt] at hd
      cases hd; rfl
    rw [edrop] at h3
    obtain ⟨ds1, g1, h3⟩ := Option.bind_eq_some_iff.mp h3
    obtain ⟨f, h4, h5⟩ := Option.bind_eq_some_iff.mp h3
    refine .inr ⟨go, fun σ2 H2 => ∃ B2 ds2, Same B1 B2 ∧ Hold X.K Γ B2 H2 σ2 ds2 ∧ loopD g F (items.drop (i + 1)) ds2 = some fl, ?_, fun x H2 hy => ?_⟩
    · rintro σ2 H2 ⟨B2, ds2, q1, q2, q3⟩
      exact ⟨items.length - (i + 1), by omega, B2, ds2, rfl, hlt, q1, q2, q3⟩
    · obtain ⟨B2, sb2, hH2, r2⟩ := yl x H2 hy
      refine ⟨Γ, B2, ds', d, ds1, hH2, r2, g1, fun B3 H3 σ3 sb3 hH3 _ => ⟨Γ, B3, ds1, f, hH3, h4, ?_⟩⟩
      have k3 := k'.up (sb2.trans sb3)
      have s13 : Same B1 B3 := sb.trans (sb2.trans sb3)
      cases f with
      | nx s => exact fun B4 H4 σ4 sb4 hH4 => ⟨B4, s, s13.trans sb4, hH4, h5⟩
      | ct s => exact fun B4 H4 σ4 sb4 hH4 => ⟨B4, s, s13.trans sb4, hH4, h5⟩
      | bk s => cases h5; exact k3
      | ret d s => cases h5; exact k3
      | retF d s => cases h5; exact k3
  · have ei : i = items.length := by omega
    subst ei
    rw [List.drop_length] at h3
    cases h3
    exact .inl ⟨fs, k' B' H σ (Same.refl _) hH'⟩
def whileD (c : DSt → Option Bool) (body : DSt → Option Fl) : Nat → DSt → Option Fl
  | 0, _ => none
  | n + 1, s => (c s).bind fun b => if b = true then (body s).bind fun
    | .nx s2 => whileD c body n s2
    | .ct s2 => whileD c body n s2
    | .bk s2 => some (.nx s2)
    | f => some f
    else some (.nx s)
theorem s_while {c : Expr} {body : List Stmt} {fc : DSt → Option Bool} (n : Nat) (hp : PassesOwn (model X.prog X.w) X.A X.env X.xe) (hc : PTD X c fc) (hb : PSsD X body F) : PSD X (.While c body [] pos) (whileD fc F n) := by
  refine psM (ps_while hp hc hb) fun D σ H q => ?_
  obtain ⟨Γ, B, ds, fl, hH, e, k⟩ := q
  refine ⟨fun m σ H => ∃ B' ds', Same B B' ∧ Hold X.K Γ B' H σ ds' ∧ whileD fc F m ds' = some fl, ⟨n, B, ds, Same.refl _, hH, e⟩, ?_⟩
  rintro m σ H ⟨B', ds', sb, hH', h1⟩
  cases m with
  | zero => cases h1
  | succ m =>
    obtain ⟨b, h2, h3⟩ := Option.bind_eq_some_iff.mp h1
    refine ⟨Γ, B', ds', b, hH', h2, fun B2 H2 sb2 hH2 => ?_⟩
    have k2 := k.up (sb.trans sb2)
    cases b with
    | false => cases h3; exact iteF (k2 B2 H2 σ (Same.refl _) hH2)
    | true =>
      rw [if_pos rfl] at h3
      obtain ⟨f, h4, h5⟩ := Option.bind_eq_some_iff.mp h3
      refine iteT ⟨fun σ3 H3 => ∃ B3 ds3, Same B B3 ∧ Hold X.K Γ B3 H3 σ3 ds3 ∧ whileD fc F m ds3 = some fl, fun σ3 H3 ⟨B3, ds3, q1, q2, q3⟩ => ⟨m, Nat.lt_succ_self m, B3, ds3, q1, q2, q3⟩, Γ, B2, ds', f, hH2, h4, ?_⟩
      have s2 : Same B B2 := sb.trans sb2
      cases f with
      | nx s => exact fun B4 H4 σ4 sb4 hH4 => ⟨B4, s, s2.trans sb4, hH4, h5⟩
      | ct s => exact fun B4 H4 σ4 sb4 hH4 => ⟨B4, s, s2.trans sb4, hH4, h5⟩
      | bk s => cases h5; exact k2
      | ret d s => cases h5; exact k2
      | retF d s => cases h5; exact k2
end
end DL

set_option Elab.async false
set_option linter.all false
set_option autoImplicit false
set_option maxRecDepth 100000
set_option maxHeartbeats 4000000
namespace DL
open PySem PySem.Spec PyProof.Rows L2

/-! ### slots forgotten and found again -/
section
variable {K : PySem.W.Frag} {Γ : Ent} {B H : Hp} {σ : L2.St} {ds : DSt}
theorem Hold.wiped (h : Hold K Γ B H σ ds) {vs : List Nat} (ok : okWipe ds vs = true) : Hold K Γ B H (wipe σ vs) (wipeD ds vs) := by
  have vout : ∀ {i : Nat} {x : L}, (wipeD ds vs)[i]? = some (some x) → i ∉ vs ∧ ds[i]? = some (some x) := fun q => wipeD_in q
  have wout : ∀ {i : Nat}, i ∉ vs → (wipe σ vs)[i]? = σ[i]? := fun {i} hi => by
    induction vs with
    | nil => rfl
    | cons v vs ih =>
      simp only [List.mem_cons, not_or] at hi
      unfold wipe
      rw [List.getElem?_set_ne (Ne.symm hi.1)]
      exact ih (okWipe_of fun j f l q => fun z => okWipe_at ok q (List.mem_cons_of_mem _ z)) (fun q => wipeD_in q) hi.2
  refine ⟨by rw [wipe_length, wipeD_len]; exact h.len, h.bh, h.gb, h.keep, h.fresh, fun i d q => ?_, fun i d l q => ?_, fun i j d e l m a q1 q2 q3 q4 => ?_, fun p hp => ?_, h.lb⟩
  · obtain ⟨n, q⟩ := vout q
    rw [wout n]; exact h.val i d q
  · obtain ⟨n, q⟩ := vout q
    rw [wout n]; exact h.own i d l q
  · obtain ⟨n1, q1⟩ := vout q1
    obtain ⟨n2, q2⟩ := vout q2
    rw [wout n1] at q3
    rw [wout n2] at q4
    exact h.inj i j d e l m a q1 q2 q3 q4
  · obtain ⟨d, q1, q2⟩ := h.lent p hp
    have n := okWipe_at ok q1
    exact ⟨d, by rw [wipeD_out n]; exact q1, by rw [wout n]; exact q2⟩
theorem wipe_out' {σ : L2.St} {i : Nat} : ∀ {vs : List Nat}, i ∉ vs → (wipe σ vs)[i]? = σ[i]?
  | [], _ => rfl
  | v :: vs, hi => by
    simp only [List.mem_cons, not_or] at hi
    unfold wipe
    rw [List.getElem?_set_ne (Ne.symm hi.1), wipe_out' hi.2]
theorem wipe_more {σ : L2.St} : ∀ {vs us : List Nat}, (∀ v ∈ us, v ∈ vs) → wipe (wipe σ us) vs = wipe σ vs
  | vs, [], _ => rfl
  | vs, u :: us, h => by
    have e : wipe σ (u :: us) = (wipe σ us).set u none := rfl
    rw [e, wipe_set (h u List.mem_cons_self), wipe_more fun v hv => h v (List.mem_cons_of_mem _ hv)]
theorem Hold.unwiped {B' H' : Hp} (h : Hold K Γ B H σ ds) {vs : List Nat} (ok : okWipe ds vs = true) (s : Same B B') (w : Hold K Γ B' H' (wipe σ vs) (wipeD ds vs)) : Hold K Γ B' H' σ ds := by
  refine ⟨h.len, w.bh, w.gb, w.keep, w.fresh, fun i d q => ?_, fun i d l q => ?_, h.inj, h.lent, h.lb⟩
  · obtain ⟨v, e, r⟩ := h.val i d q
    exact ⟨v, e, r.mono s⟩
  · have n := okWipe_at ok q
    have := w.own i d l (by rw [wipeD_out n]; exact q)
    rw [wipe_out' n] at this
    exact this
/-- an object in no slot is guarded -/
def Ent.guard (Γ : Ent) (p : Addr) (o : HO) : Ent := ⟨Γ.B, upd Γ.H p o, Γ.lent⟩
structure Loose (Γ : Ent) (B H : Hp) (σ : L2.St) (ds : DSt) (p : Addr) (o : HO) : Prop where
  at_ : H p = some o
  b : B p = none
  g : Γ.H p = none
  ne : ∀ (i : Nat) e l, ds[i]? = some (some (.own e l)) → σ[i]? ≠ some (some (.ref p))
theorem Hold.guard {p : Addr} {o : HO} (h : Hold K Γ B H σ ds) (w : Loose Γ B H σ ds p o) : Hold K (Γ.guard p o) B H σ ds := by
  refine ⟨h.len, h.bh, h.gb, fun b u q l => ?_, fun b u q => ?_, h.val, fun i d l q => ?_, h.inj, h.lent, fun p' hp => ?_⟩
  · have q : upd Γ.H p o b = some u := q
    by_cases hb : b = p
    · subst hb; rw [upd_same] at q; cases q; exact w.at_
    · rw [upd_ne hb] at q; exact h.keep b u q l
  · rcases h.fresh b u q with z | ⟨z1, z2⟩
    · exact .inl z
    · have hb : b ≠ p := fun z => by rw [z, w.b] at q; cases q
      exact .inr ⟨z1, by show upd Γ.H p o b = none; rw [upd_ne hb]; exact z2⟩
  · obtain ⟨a, e1, e2, e3, e4, e5⟩ := h.own i d l q
    have ha : a ≠ p := fun z => w.ne i d l q (by rw [← z]; exact e1)
    exact ⟨a, e1, e2, e3, fun z => by show upd Γ.H p o a = none; rw [upd_ne ha]; exact e4 z, e5⟩
  · obtain ⟨u, e⟩ := h.lb p' hp
    have hb : p'.2 ≠ p := fun z => by rw [z, w.g] at e; cases e
    exact ⟨u, by show upd Γ.H p o p'.2 = some u; rw [upd_ne hb]; exact e⟩
theorem Hold.unguard {p : Addr} {o : HO} (h : Hold K (Γ.guard p o) B H σ ds) (g : Γ.H p = none) (gb : Γ.B p = none) (lb : ∀ q ∈ Γ.lent, ∃ u, Γ.H q.2 = some u) : Hold K Γ B H σ ds ∧ Loose Γ B H σ ds p o := by
  have nl : ∀ i, (i, p) ∉ Γ.lent := fun i hi => by
    obtain ⟨u, e⟩ := lb _ hi
    rw [g] at e; cases e
  have up : ∀ {b : Addr} {u : HO}, Γ.H b = some u → upd Γ.H p o b = some u := fun {b u} q => by rw [upd_ne (ne_of_none q g)]; exact q
  have dn : ∀ {b : Addr}, upd Γ.H p o b = none → b ≠ p ∧ Γ.H b = none := fun {b} q => by
    have hb : b ≠ p := fun z => by rw [z, upd_same] at q; cases q
    rw [upd_ne hb] at q
    exact ⟨hb, q⟩
  have at_ : H p = some o := h.keep p o (by show upd Γ.H p o p = _; exact upd_same) nl
  have bn : B p = none := by
    cases q : B p with
    | none => rfl
    | some u =>
      rcases h.fresh p u q with z | ⟨_, z⟩
      · have z : Γ.B p = some u := z
        rw [gb] at z; cases z
      · exact absurd rfl (dn z).1
  refine ⟨⟨h.len, h.bh, h.gb, fun b u q l => h.keep b u (up q) l, fun b u q => ?_, h.val, fun i d l q => ?_, h.inj, h.lent, lb⟩, at_, bn, g, fun i d l q z => ?_⟩
  · rcases h.fresh b u q with z | ⟨z1, z2⟩
    · exact .inl z
    · exact .inr ⟨z1, (dn z2).2⟩
  · obtain ⟨a, e1, e2, e3, e4, e5⟩ := h.own i d l q
    exact ⟨a, e1, e2, e3, fun z => (dn (e4 z)).2, e5⟩
  · obtain ⟨a, e1, e2, e3, e4, e5⟩ := h.own i d l q
    have : a = p := by rw [z] at e1; cases e1; rfl
    subst this
    cases l with
    | false => exact (dn (e4 rfl)).1 rfl
    | true => exact nl i (e5 rfl)
end

/-! ### list comprehensions -/
def PTsD (X : Cx) (ifs : List Expr) (f : DSt → Option Bool) : Prop := PTs X ifs (tT X.K f)
@[simp] def bYes : DSt → Option Bool := fun _ => some true
theorem ptsM {X : Cx} {ifs : List Expr} {t t' : TT} (h : PTs X ifs t) (i : ∀ σ H Q, t' σ H Q → t σ H Q) : PTs X ifs t' := ⟨fun pins s σ H Q I hw => h.run pins s σ H Q I (i σ H Q hw)⟩
theorem ts_nil {X : Cx} : PTsD X [] bYes := by
  refine ptsM pts_nil fun σ H Q q => ?_
  obtain ⟨Γ, B, ds, b, hH, e, k⟩ := q
  cases e
  exact k B H (Same.refl B) hH
theorem ts_one {X : Cx} {c : Expr} {f : DSt → Option Bool} (h : PTD X c f) : PTsD X [c] f := pts_one h
def lcD (g : D → DSt → Option DSt) (t : DSt → Option Bool) (f : DSt → Option D) (s : DSt) : List D → Option (List D)
  | [] => some []
  | x :: r => (g x s).bind fun s1 => (t s1).bind fun b => if b = true then (f s1).bind fun y => (lcD g t f s r).map fun l => y :: l else lcD g t f s r
@[simp] def eLc (it : DSt → Option (List D)) (g : D → DSt → Option DSt) (t : DSt → Option Bool) (f : DSt → Option D) (vs : List Nat) : DSt → Option D := fun s =>
  if okWipe s vs = true then (it s).bind fun items => (lcD g t f (wipeD s vs) items).bind mkLst else none
theorem mkLst_some {l : List D} {d : D} (h : mkLst l = some d) : d = .list l ∧ l.length ≤ sizeLine := by
  unfold mkLst at h
  split at h
  · rename_i c; cases h; exact ⟨rfl, c⟩
  · cases h
theorem lc_go {K : PySem.W.Frag} {fi : DSt → Option (List D)} {g : D → DSt → Option DSt} {t : DSt → Option Bool} {f : DSt → Option D} {vs : List Nat} (hg1 : ∀ d s s', g d s = some s' → okWipe s vs = true → okWipe s' vs = true ∧ wipeD s' vs = wipeD s vs)
    {σ : L2.St} {H : Hp} {Q : VK} (q : tF K (eLc fi g t f vs) σ H Q) :
    tLc (tI K fi) (fun v σ H Q => ∃ Γ B ds d ds', Hold K Γ B H σ ds ∧ Rp K B v d ∧ g d ds = some ds' ∧ ∀ B' H' σ', Same B B' → Hold K Γ B' H' σ' ds' → wipe σ' vs = wipe σ vs → Q σ' H') (tT K t) (tE K f) vs σ H Q := by
  obtain ⟨Γ, B, ds, fd, hH, e, k⟩ := q
  unfold eLc at e
  split at e
  rename_i ok
  · obtain ⟨items, h1, e⟩ := Option.bind_eq_some_iff.mp e
    obtain ⟨fin, h2, h3⟩ := Option.bind_eq_some_iff.mp e
    obtain ⟨rfl, hz⟩ := mkLst_some h3
    refine ⟨Γ, B, ds, items, hH, h1, fun J B1 H1 s1 hH1 fol D hD => ?_⟩
    have hw1 := hH1.wiped ok
    obtain ⟨hn, wn⟩ := hw1.newOwn (o := .lst []) (d := .list []) hD ⟨[], upd_same, .nil⟩
    have okw : okWipe (wipeD ds vs) vs = true := okWipe_of fun i d l q => (wipeD_in q).1
    refine ⟨fun i m H => ∃ B' acc dacc rest, m = items.length - i ∧ i ≤ items.length ∧ Same B1 B' ∧ Hold K Γ B' H (wipe σ vs) (wipeD ds vs) ∧ Loose Γ B' H (wipe σ vs) (wipeD ds vs) D (.lst acc) ∧ RpAll K B' acc dacc ∧ lcD g t f (wipeD ds vs) (items.drop i) = some rest ∧ dacc ++ rest = fin,
      ⟨items.length, B1, [], [], fin, rfl, Nat.zero_le _, Same.refl _, hn, ⟨upd_same, wn.b, wn.g, wn.ne⟩, .nil, h2, rfl⟩, ?_⟩
    rintro i m H ⟨B', acc, dacc, rest, rfl, hi, sb, hH', lo, ra, h4, h5⟩
    have hG := hH'.guard lo
    have gbn : Γ.B D = none := hH'.gb.free lo.b
    obtain ⟨fs, fi⟩ := fol (Γ.guard D (.lst acc)) B' H _ _ sb hG
    by_cases hlt : i < items.length
    · obtain ⟨d, hd⟩ : ∃ d, items[i]? = some d := ⟨_, List.getElem?_eq_getElem hlt⟩
      obtain ⟨go, yl⟩ := fi i d hd
      have edrop : items.drop i = d :: items.drop (i + 1) := by
        rw [List.drop_eq_getElem_cons hlt]
        rw [List.getElem?_eq_getElem hlt] at hd
        cases hd; rfl
      rw [edrop] at h4
      unfold lcD at h4
      obtain ⟨ds1, g1, h4⟩ := Option.bind_eq_some_iff.mp h4
      obtain ⟨b, t1, h4⟩ := Option.bind_eq_some_iff.mp h4
      obtain ⟨okd, wd⟩ := hg1 _ _ _ g1 okw
      rw [wipeD_idem] at wd
      refine .inr ⟨go, fun H2 => ∃ B2 acc2 dacc2 rest2, Same B1 B2 ∧ Hold K Γ B2 H2 (wipe σ vs) (wipeD ds vs) ∧ Loose Γ B2 H2 (wipe σ vs) (wipeD ds vs) D (.lst acc2) ∧ RpAll K B2 acc2 dacc2 ∧ lcD g t f (wipeD ds vs) (items.drop (i + 1)) = some rest2 ∧ dacc2 ++ rest2 = fin, ?_, fun x H2 hy => ?_⟩
      · rintro H2 ⟨B2, a2, d2, r2, q1, q2, q3, q4, q5, q6⟩
        exact ⟨items.length - (i + 1), by omega, B2, a2, d2, r2, rfl, hlt, q1, q2, q3, q4, q5, q6⟩
      · obtain ⟨B2, sb2, hH2, r2⟩ := yl x H2 hy
        refine ⟨_, B2, _, d, ds1, hH2, r2, g1, fun B3 H3 σ3 sb3 hH3 w3 => ⟨?_, _, B3, ds1, b, hH3, t1, fun B4 H4 sb4 hH4 => ?_⟩⟩
        · rw [w3, wipe_more fun _ h => h]
        · have e3 : wipe σ3 vs = wipe σ vs := by rw [w3, wipe_more fun _ h => h]
          have s14 : Same B' B4 := (sb2.trans sb3).trans sb4
          cases b with
          | false =>
            obtain ⟨hU, lU⟩ := hH4.unguard lo.g gbn hH.lb
            have hW := hU.wiped okd
            rw [wd, e3] at hW
            refine iteF ⟨B4, acc, dacc, rest, sb.trans s14, hW, ⟨lU.at_, lU.b, lo.g, fun j e l q z => ?_⟩, ra.mono s14, h4, h5⟩
            rw [← wd] at q
            rw [← e3] at z
            obtain ⟨nj, q⟩ := wipeD_in q
            rw [wipe_out' nj] at z
            exact lU.ne j e l q z
          | true =>
            rw [if_pos rfl] at h4
            obtain ⟨y, f1, h4⟩ := Option.bind_eq_some_iff.mp h4
            obtain ⟨r', h6, rfl⟩ := Option.map_eq_some_iff.mp h4
            refine iteT ⟨_, B4, ds1, y, hH4, f1, fun B5 H5 v sb5 hH5 r5 => ?_⟩
            obtain ⟨hU, lU⟩ := hH5.unguard lo.g gbn hH.lb
            have s15 : Same B' B5 := s14.trans sb5
            have hW := hU.wiped okd
            rw [wd, e3] at hW
            have hlen : acc.length < sizeLine := by
              rw [ra.length]
              have := congrArg List.length h5
              rw [List.length_append, List.length_cons] at this
              omega
            refine ⟨acc, lU.at_, hlen, B5, acc ++ [v], dacc ++ [y], r', sb.trans s15, ?_, ⟨upd_same, lU.b, lo.g, fun j e l q z => ?_⟩, (ra.mono s15).append (.cons r5 .nil), h6, by rw [List.append_assoc]; exact h5⟩
            · have lW : Loose Γ B5 H5 (wipe σ vs) (wipeD ds vs) D (.lst acc) := ⟨lU.at_, lU.b, lo.g, fun j e l q z => by
                rw [← wd] at q
                rw [← e3] at z
                obtain ⟨nj, q⟩ := wipeD_in q
                rw [wipe_out' nj] at z
                exact lU.ne j e l q z⟩
              refine ⟨hW.len, fun b u q => ?_, hW.gb, fun b u q l => ?_, hW.fresh, hW.val, fun j d l q => ?_, hW.inj, hW.lent, hW.lb⟩
              · rw [upd_ne (ne_of_none q lW.b)]; exact hW.bh _ _ q
              · rw [upd_ne (ne_of_none q lW.g)]; exact hW.keep b u q l
              · obtain ⟨a, e1, e2, e4, e5⟩ := hW.own j d l q
                have ha : a ≠ D := fun z => lW.ne j d l q (by rw [← z]; exact e1)
                exact ⟨a, e1, e2, e4.heap fun o q' => by rw [upd_ne ha]; exact q', e5⟩
            · rw [← wd] at q
              rw [← e3] at z
              obtain ⟨nj, q⟩ := wipeD_in q
              rw [wipe_out' nj] at z
              exact lU.ne j e l q z
    · have ei : i = items.length := by omega
      subst ei
      rw [List.drop_length] at h4
      cases h4
      rw [List.append_nil] at h5
      subst h5
      have hU := hH1.unwiped ok sb hH'
      refine .inl ⟨fs, k B' H D (s1.trans sb) hU ⟨lo.b, ⟨acc, lo.at_, ra⟩, lo.g, fun j e l q z => ?_⟩⟩
      have n := okWipe_at ok q
      exact lo.ne j e l (by rw [wipeD_out n]; exact q) (by rw [wipe_out' n]; exact z)
  · cases e
section
variable {X : Cx} {elt tg iter : Expr} {ifs : List Expr} {scope : Scope} {own : List (Str × Nat)} {pos : Pos} {fi : DSt → Option (List D)} {g : D → DSt → Option DSt} {t : DSt → Option Bool} {f : DSt → Option D}
/-- [elt for tg in iter if ..], a new list -/
theorem f_lc (hc : X.calm = true) (hN : X.N.Nodup) (hi : PID X tg iter fi) (ok : BlkOk X.N X.env.scope scope own)
    (hg : ∀ (s : Shared) (H : Hp) (C : Addr) (cl : List (Str × Addr)) (fp : List Addr), PGD (X.blk s H scope (compEnvC scope cl C X.env) fp) tg (own.map (·.2)) g) (ht : ∀ (s : Shared) (H : Hp) (C : Addr) (cl : List (Str × Addr)) (fp : List Addr), PTsD (X.blk s H scope (compEnvC scope cl C X.env) fp) ifs t)
    (he : ∀ (s : Shared) (H : Hp) (C : Addr) (cl : List (Str × Addr)) (fp : List Addr), PED (X.blk s H scope (compEnvC scope cl C X.env) fp) elt f) (hs : ∀ x, foldedSetIterable iter X.env x = pure x := by intro _; rfl) :
    PFD X (.ListComp elt [⟨tg, iter, ifs, 0⟩] scope pos) (eLc fi g t f (own.map (·.2))) :=
  ⟨fun pins s σ H Q I q => (pe_lc (g := fun v σ H Q => ∃ Γ B ds d ds', Hold X.K Γ B H σ ds ∧ Rp X.K B v d ∧ g d ds = some ds' ∧ ∀ B' H' σ', Same B B' → Hold X.K Γ B' H' σ' ds' → wipe σ' (own.map (·.2)) = wipe σ (own.map (·.2)) → Q σ' H') (tt := tT X.K t) (te := tE X.K f) hc hN hi ok (fun s H C cl fp => (hg s H C cl fp).2) ht he hs).run pins s σ H Q I (lc_go (hg s H 0 [] []).1 q)⟩
/-- name = [..] on one line -/
theorem lc_set {i : Nat} {y : Str} {py spos : Pos} (hc : X.calm = true) (hN : X.N.Nodup) (hy : X.N[i]? = some y) (hyl : X.env.scope.names.lookup y = some .local)
    (hsw : swapsWith (.ListComp elt [⟨tg, iter, ifs, 0⟩] scope pos) (some (.Name y py)) spos.line X.env = pure true) (hi : PID X tg iter fi) (ok : BlkOk X.N X.env.scope scope own)
    (hg : ∀ (s : Shared) (H : Hp) (C : Addr) (cl : List (Str × Addr)) (fp : List Addr), PGD (X.blk s H scope (compEnvC scope cl C X.env) fp) tg (own.map (·.2)) g) (ht : ∀ (s : Shared) (H : Hp) (C : Addr) (cl : List (Str × Addr)) (fp : List Addr), PTsD (X.blk s H scope (compEnvC scope cl C X.env) fp) ifs t)
    (he : ∀ (s : Shared) (H : Hp) (C : Addr) (cl : List (Str × Addr)) (fp : List Addr), PED (X.blk s H scope (compEnvC scope cl C X.env) fp) elt f) (hs : ∀ x, foldedSetIterable iter X.env x = pure x := by intro _; rfl) :
    PS X (.Assign [.Name y py] (.ListComp elt [⟨tg, iter, ifs, 0⟩] scope pos) spos) (tAsg (tF X.K (eLc fi g t f (own.map (·.2)))) (gName i)) :=
  ⟨fun pins s σ H D I q => (ps_setLc (g := fun v σ H Q => ∃ Γ B ds d ds', Hold X.K Γ B H σ ds ∧ Rp X.K B v d ∧ g d ds = some ds' ∧ ∀ B' H' σ', Same B B' → Hold X.K Γ B' H' σ' ds' → wipe σ' (own.map (·.2)) = wipe σ (own.map (·.2)) → Q σ' H') (tt := tT X.K t) (te := tE X.K f) hc hN hy hyl hsw hi ok (fun s H C cl fp => (hg s H C cl fp).2) ht he hs).run pins s σ H D I (lc_go (hg s H 0 [] []).1 q)⟩
/-- .. a local that the def changes; data -/
theorem s_lcOwn {i : Nat} {st : Stmt} (h : PS X st (tAsg (tF X.K f) (gName i))) : PSD X st (sOwn i f) := psM h fun _ _ _ q => own_go q
theorem s_lcSet {i : Nat} {st : Stmt} (h : PS X st (tAsg (tF X.K f) (gName i))) : PSD X st (sSet i f) := psM h fun D σ H q => by
  have q' := set_go (X := X) q
  obtain ⟨Γ, B, ds, d, hH, e1, k⟩ := q'
  refine ⟨Γ, B, ds, d, hH, e1, fun B' H' a s h' w => ?_⟩
  obtain ⟨B2, s2, h2, r2⟩ := w.freeze h'
  exact k B2 H' _ (s.trans s2) h2 r2
end
end DL

set_option Elab.async false
set_option linter.all false
set_option autoImplicit false
set_option maxRecDepth 100000
set_option maxHeartbeats 4000000
namespace DL
open PySem PySem.Spec PyProof.Rows L2

/-! ### where one stands -/
structure MD where
  P : Program
  w : World
  K : PySem.W.Frag
  mg : Str → Option Value
  base : Heap
/-- which names of N may be read, be set, are plain locals; which names are global -/
structure NmC where
  N : List Str
  sb : List Bool
  pb : List Bool
  lb : List Bool
  gl : List Str
def cxC (c : NmC) (sc : Scope) (fn : Str → Bool) : Bool :=
  (match sc.kind with | .function => true | _ => false) && decide c.N.Nodup && (List.range c.N.length).all (fun i => match c.N[i]? with
    | none => true
    | some x => (match c.sb[i]? with
        | some true => (match sc.names.lookup x with | some .local => true | some .cell => true | some .free => true | _ => false) && !(x == ("__debug__" : Str)) && !(x == ("__classdict__" : Str))
        | _ => true) &&
      (match c.pb[i]? with
        | some true => (match sc.names.lookup x with | some .local => true | some .cell => fn x | _ => false)
        | _ => true) &&
      (match c.lb[i]? with
        | some true => (match sc.names.lookup x with | some .local => true | _ => false)
        | _ => true)) &&
  c.gl.all fun x => (match sc.names.lookup x with | some .globalImplicit => true | _ => false) && !(x == ("__debug__" : Str)) && !(x == ("__name__" : Str))
structure Ctx (M : MD) (j : Nat) (c : NmC) (sc : Scope) (X : Cx) : Prop where
  prog : X.prog = M.P
  w_ : X.w = M.w
  K_ : X.K = M.K
  mg_ : X.mg = M.mg
  base_ : X.base = M.base
  N_ : X.N = c.N
  nd : c.N.Nodup
  calm : X.calm = true
  room : Room j X.A
  xe : X.xe = fun _ _ => False
  scope : X.env.scope = sc
  kind : sc.kind = .function
  see : ∀ (i : Nat) x, c.N[i]? = some x → c.sb[i]? = some true → Vis sc x ∧ (x == ("__debug__" : Str)) = false ∧ (x == ("__classdict__" : Str)) = false
  put : ∀ (i : Nat) x, c.N[i]? = some x → c.pb[i]? = some true → Loc sc x ∧ (X.fn x = true ∨ sc.names.lookup x = some .local)
  loc : ∀ (i : Nat) x, c.N[i]? = some x → c.lb[i]? = some true → sc.names.lookup x = some .local
  glo : ∀ (i : Nat) x, c.gl[i]? = some x → sc.names.lookup x = some .globalImplicit ∧ (x == ("__debug__" : Str)) = false ∧ x ≠ "__name__"
theorem Ctx.mk' {M : MD} {j : Nat} {c : NmC} {sc : Scope} {X : Cx} {fn : Str → Bool} (hc : cxC c sc fn = true) (hf : ∀ x, fn x = true → X.fn x = true) (prog : X.prog = M.P) (w_ : X.w = M.w) (K_ : X.K = M.K) (mg_ : X.mg = M.mg) (base_ : X.base = M.base) (N_ : X.N = c.N) (calm : X.calm = true)
    (room : Room j X.A) (xe : X.xe = fun _ _ => False) (scope : X.env.scope = sc) : Ctx M j c sc X := by
  unfold cxC at hc
  simp only [Bool.and_eq_true, decide_eq_true_eq, List.all_eq_true] at hc
  obtain ⟨⟨⟨h1, h2⟩, h3⟩, h4⟩ := hc
  have at_ : ∀ (i : Nat) x, c.N[i]? = some x → i ∈ List.range c.N.length := fun i x e => List.mem_range.mpr (List.getElem?_eq_some_iff.mp e).1
  refine ⟨prog, w_, K_, mg_, base_, N_, h2, calm, room, xe, scope, ?_, fun i x e s => ?_, fun i x e s => ?_, fun i x e s => ?_, fun i x e => ?_⟩
  · split at h1
    · assumption
    · cases h1
  · have q := (h3 i (at_ i x e))
    simp only [e, s, Bool.and_eq_true, Bool.not_eq_true'] at q
    obtain ⟨⟨⟨⟨q1, q2⟩, q3⟩, _⟩, _⟩ := q
    refine ⟨?_, q2, q3⟩
    unfold Vis
    split at q1 <;> first | exact .inl (by assumption) | exact .inr (.inl (by assumption)) | exact .inr (.inr (by assumption)) | cases q1
  · have q := (h3 i (at_ i x e))
    simp only [e, s, Bool.and_eq_true] at q
    obtain ⟨⟨_, q1⟩, _⟩ := q
    unfold L2.Loc
    split at q1
    · rename_i z; exact ⟨.inl z, .inr z⟩
    · rename_i z; exact ⟨.inr z, .inl (hf x q1)⟩
    · cases q1
  · have q := (h3 i (at_ i x e))
    simp only [e, s, Bool.and_eq_true] at q
    obtain ⟨_, q1⟩ := q
    split at q1
    · assumption
    · cases q1
  · have q := h4 x (List.mem_of_getElem? e)
    simp only [Bool.and_eq_true, Bool.not_eq_true'] at q
    obtain ⟨⟨q1, q2⟩, q3⟩ := q
    refine ⟨?_, q2, fun z => ?_⟩
    · split at q1
      · assumption
      · cases q1
    · rw [z] at q3
      simp at q3
section
variable {M : MD} {j : Nat} {c : NmC} {sc : Scope} {X : Cx} {pos : Pos} {a b e : Expr} {fa fb : DSt → Option D}
/-- a comprehension's block -/
theorem Ctx.blk {c' : NmC} {scope : Scope} (h : Ctx M j c sc X) (hN : c'.N = c.N) (hc : cxC c' (relS scope sc) (fun x => scope.names.lookup x == some .cell) = true) (s : Shared) (H : Hp) (C : Addr) (cl : List (Str × Addr)) (fp : List Addr) : Ctx M j c' (relS scope sc) (X.blk s H scope (compEnvC scope cl C X.env) fp) :=
  Ctx.mk' hc (fun _ q => q) h.prog h.w_ h.K_ h.mg_ h.base_ (h.N_.trans hN.symm) h.calm h.room rfl (by rw [← h.scope]; rfl)
theorem Ctx.hu (h : Ctx M j c sc X) : X.A.units + 65 < cLine := by have := h.room.un; omega
theorem Ctx.var (h : Ctx M j c sc X) (i : Nat) {x : Str} {p : Pos} (hi : c.N[i]? = some x) (hs : c.sb[i]? = some true) : PE X (.Name x p) (tVar i) := by
  obtain ⟨q1, q2, q3⟩ := h.see i x hi hs
  exact pe_var (by rw [h.N_]; exact hi) (by rw [h.scope]; exact q1) q2 q3
theorem Ctx.v (h : Ctx M j c sc X) (i : Nat) {x : Str} {p : Pos} (hi : c.N[i]? = some x := by rfl) (hs : c.sb[i]? = some true := by rfl) : PED X (.Name x p) (vE i) := d_name (h.var i hi hs)
theorem Ctx.gl' (h : Ctx M j c sc X) (i : Nat) {x : Str} (hi : c.gl[i]? = some x) : Gl X x := by
  unfold Gl Env.kindOf
  rw [h.scope]
  exact (h.glo i x hi).1
theorem Ctx.mgn (h : Ctx M j c sc X) {x : Str} (hm : M.mg x = none) : X.mg x = none := by rw [h.mg_]; exact hm
/-- a module's constant -/
theorem Ctx.gc (h : Ctx M j c sc X) (i : Nat) {x : Str} {p : Pos} {u : Value} {v : V} {d : D} (hm : M.mg x = some u) (r : RelV v u) (hr : ∀ B, Rp M.K B v d) (hi : c.gl[i]? = some x := by rfl) : PED X (.Name x p) (cE d) :=
  d_const (pe_glob (h.gl' i hi) (by rw [h.mg_]; exact hm) r (h.glo i x hi).2.1) (by rw [h.K_]; exact hr)
theorem Ctx.setN (h : Ctx M j c sc X) (i : Nat) {x : Str} {p : Pos} (ha : PED X a fa) (hi : c.N[i]? = some x := by rfl) (hs : c.pb[i]? = some true := by rfl) (hw : swapsWith a (some (.Name x p)) pos.line X.env = pure false := by rfl) : PSD X (.Assign [.Name x p] a pos) (sSet i fa) := by
  obtain ⟨q1, q2⟩ := h.put i x hi hs
  exact s_set (by rw [h.N_]; exact h.nd) (by rw [h.N_]; exact hi) (by rw [h.scope]; exact q1) (by rw [h.scope]; exact q2) ha hw
theorem Ctx.ownN (h : Ctx M j c sc X) (i : Nat) {x : Str} {p : Pos} (ha : PFD X a fa) (hi : c.N[i]? = some x := by rfl) (hs : c.pb[i]? = some true := by rfl) (hw : swapsWith a (some (.Name x p)) pos.line X.env = pure false := by rfl) : PSD X (.Assign [.Name x p] a pos) (sOwn i fa) := by
  obtain ⟨q1, q2⟩ := h.put i x hi hs
  exact s_own (by rw [h.N_]; exact h.nd) (by rw [h.N_]; exact hi) (by rw [h.scope]; exact q1) (by rw [h.scope]; exact q2) ha hw
theorem Ctx.augAdd (h : Ctx M j c sc X) (i : Nat) {x : Str} {p : Pos} (ha : PED X a fa) (hi : c.N[i]? = some x := by rfl) (hs : c.pb[i]? = some true := by rfl) : PSD X (.AugAssign (.Name x p) .Add a pos) (sAug i dIAdd fa) := by
  obtain ⟨q1, q2⟩ := h.put i x hi hs
  exact s_aug (by rw [h.N_]; exact h.nd) (by rw [h.N_]; exact hi) (by rw [h.scope]; exact q1) (by rw [h.scope]; exact q2) iop_addD dIAdd_ok ha
theorem Ctx.augSub (h : Ctx M j c sc X) (i : Nat) {x : Str} {p : Pos} (ha : PED X a fa) (hi : c.N[i]? = some x := by rfl) (hs : c.pb[i]? = some true := by rfl) : PSD X (.AugAssign (.Name x p) .Sub a pos) (sAug i dSub fa) := by
  obtain ⟨q1, q2⟩ := h.put i x hi hs
  exact s_aug (by rw [h.N_]; exact h.nd) (by rw [h.N_]; exact hi) (by rw [h.scope]; exact q1) (by rw [h.scope]; exact q2) iop_sub dISub_ok ha
theorem Ctx.g (h : Ctx M j c sc X) (i : Nat) (vs : List Nat) {x : Str} {p : Pos} (hi : c.N[i]? = some x := by rfl) (hs : c.pb[i]? = some true := by rfl) (hv : i ∈ vs := by decide) : PGD X (.Name x p) vs (gVal i) := by
  obtain ⟨q1, q2⟩ := h.put i x hi hs
  exact g_name (pg_name (by rw [h.N_]; exact h.nd) (by rw [h.N_]; exact hi) (by rw [h.scope]; exact q1) (by rw [h.scope]; exact q2)) hv
theorem Ctx.retO (h : Ctx M j c sc X) (i : Nat) {x : Str} {p : Pos} (hi : c.N[i]? = some x := by rfl) (hs : c.sb[i]? = some true := by rfl) : PSD X (.Return (some (.Name x p)) pos) (sRetO i) := s_retO (h.var i hi hs)
theorem Ctx.app (h : Ctx M j c sc X) (i : Nat) {x : Str} {p ap cpos : Pos} (ha : PED X a fa) (hi : c.N[i]? = some x := by rfl) (hsb : c.sb[i]? = some true := by rfl) (hs : starEach [a] X.env = (false, eval a X.env) :: starEach [] X.env := by rfl)
    (hbase : attributeBase (.Name x p) "append" X.env (eval (.Name x p) X.env) = eval (.Name x p) X.env := by rfl)
    (hfew : ((backTo cpos (starEach [a] X.env)).all (fun x => !x.1) && (backToKw cpos (keywordEach [] X.env)).all (fun x => x.1.isSome) && decide (([a] : List Expr).length + ([] : List Keyword).length + (if ([] : List Keyword).isEmpty then 0 else 1) < 30)) = true := by rfl)
    (hline : (ap.endLine == cpos.line) = true := by rfl) (hplain : (backTo cpos (starEach [] X.env)).any (·.1) = false := by rfl) : PSD X (.Expr (.Call (.Attribute (.Name x p) "append" ap) [a] [] cpos) pos) (sApp i fa) :=
  s_append (h.var i hi hsb) ha hs hbase hfew hline hplain
theorem Ctx.for_ (h : Ctx M j c sc X) (vs : List Nat) {tg iter : Expr} {body : List Stmt} {F : DSt → Option Fl} {fi : DSt → Option (List D)} {g : D → DSt → Option DSt} (hi : PID X tg iter fi) (hg : PGD X tg vs g) (hb : PSsD X body F)
    (hs : ∀ x, foldedSetIterable iter X.env x = pure x := by intro _; rfl) : PSD X (.For tg iter body [] pos) (sFor fi g F) := s_for (by rw [h.xe]; exact PassesOwn.never) h.calm hi hg hb hs
theorem Ctx.while_ (h : Ctx M j c sc X) (n : Nat) {t : Expr} {body : List Stmt} {F : DSt → Option Fl} {ft : DSt → Option Bool} (ht : PTD X t ft) (hb : PSsD X body F) : PSD X (.While t body [] pos) (whileD ft F n) := s_while n (by rw [h.xe]; exact PassesOwn.never) ht hb
theorem Ctx.eq (h : Ctx M j c sc X) (ha : PED X a fa) (hb : PED X b fb) : PED X (.Compare a [.Eq] [b] pos) (e2 dEqD fa fb) := d_eq (by have := h.hu; omega) ha hb
theorem Ctx.ne (h : Ctx M j c sc X) (ha : PED X a fa) (hb : PED X b fb) : PED X (.Compare a [.NotEq] [b] pos) (e2 dNeD fa fb) := d_ne (by have := h.hu; omega) ha hb
theorem Ctx.in_ (h : Ctx M j c sc X) (ha : PED X a fa) (hb : PED X b fb) (hm : behindInMarks .In b = false := by rfl) : PED X (.Compare a [.In] [b] pos) (e2 dInD fa fb) := d_in h.hu ha hb hm
theorem Ctx.notIn (h : Ctx M j c sc X) (ha : PED X a fa) (hb : PED X b fb) (hm : behindInMarks .NotIn b = false := by rfl) : PED X (.Compare a [.NotIn] [b] pos) (e2 dNotInD fa fb) := d_notIn h.hu ha hb hm
theorem Ctx.teq (h : Ctx M j c sc X) (ha : PED X a fa) (hb : PED X b fb) : PTD X (.Compare a [.Eq] [b] pos) (tb (e2 dEqD fa fb)) := t_eq (by have := h.hu; omega) ha hb
theorem Ctx.tne (h : Ctx M j c sc X) (ha : PED X a fa) (hb : PED X b fb) : PTD X (.Compare a [.NotEq] [b] pos) (tb (e2 dNeD fa fb)) := t_ne (by have := h.hu; omega) ha hb
theorem Ctx.tin (h : Ctx M j c sc X) (ha : PED X a fa) (hb : PED X b fb) (hm : behindInMarks .In b = false := by rfl) : PTD X (.Compare a [.In] [b] pos) (tb (e2 dInD fa fb)) := t_in h.hu ha hb hm
theorem Ctx.tnotIn (h : Ctx M j c sc X) (ha : PED X a fa) (hb : PED X b fb) (hm : behindInMarks .NotIn b = false := by rfl) : PTD X (.Compare a [.NotIn] [b] pos) (tb (e2 dNotInD fa fb)) := t_notIn h.hu ha hb hm
theorem Ctx.ix (h : Ctx M j c sc X) (ha : PED X a fa) (hb : PED X b fb) (hs : PlainIx b := by intro _ _; rfl) : PED X (.Subscript a b pos) (e2 dIx fa fb) := d_ix (by have := h.hu; omega) ha hb hs
variable {es : List Expr} {fs : DSt → Option (List D)}
abbrev DefD (M : MD) (k : Nat) (x : Str) (den : List D → Option D) : Prop := DefOk M.P M.w M.K M.mg M.base k x (spD M.K den)
abbrev DefF (M : MD) (k : Nat) (x : Str) (den : List D → Option D) : Prop := DefOk M.P M.w M.K M.mg M.base k x (spF M.K den)
theorem Ctx.call (h : Ctx M j c sc X) {k : Nat} (i : Nat) {x : Str} {p : Pos} {den : List D → Option D} (F : DefD M k x den) (ha : PAD X (a :: es) fs) (hj : k ≤ j := by decide) (hi : c.gl[i]? = some x := by rfl)
    (hs : starEach (a :: es) X.env = (false, eval a X.env) :: starEach es X.env := by rfl) (hp : (backTo pos (starEach es X.env)).any (·.1) = false := by rfl) : PED X (.Call (.Name x p) (a :: es) [] pos) (eCall den fs) :=
  d_call (by rw [h.prog, h.w_, h.K_, h.mg_, h.base_]; exact F) h.room hj (h.gl' i hi) ha hs hp (h.glo i x hi).2.1
theorem Ctx.callF (h : Ctx M j c sc X) {k : Nat} (i : Nat) {x : Str} {p : Pos} {den : List D → Option D} (F : DefF M k x den) (ha : PAD X (a :: es) fs) (hj : k ≤ j := by decide) (hi : c.gl[i]? = some x := by rfl)
    (hs : starEach (a :: es) X.env = (false, eval a X.env) :: starEach es X.env := by rfl) (hp : (backTo pos (starEach es X.env)).any (·.1) = false := by rfl) : PFD X (.Call (.Name x p) (a :: es) [] pos) (eCall den fs) :=
  f_call (by rw [h.prog, h.w_, h.K_, h.mg_, h.base_]; exact F) h.room hj (h.gl' i hi) ha hs hp (h.glo i x hi).2.1
theorem Ctx.rng1 (h : Ctx M j c sc X) (i : Nat) {tg : Expr} {p : Pos} (hm : M.mg "range" = none) (ha : PED X a fa) (hi : c.gl[i]? = some "range" := by rfl) (hs : starEach [a] X.env = [(false, eval a X.env)] := by rfl) : PID X tg (.Call (.Name "range" p) [a] [] pos) (eRng1 fa) := i_range1 (h.gl' i hi) (h.mgn hm) ha hs
theorem Ctx.rng2 (h : Ctx M j c sc X) (i : Nat) {tg : Expr} {p : Pos} (hm : M.mg "range" = none) (ha : PED X a fa) (hb : PED X b fb) (hi : c.gl[i]? = some "range" := by rfl) (hs : starEach [a, b] X.env = [(false, eval a X.env), (false, eval b X.env)] := by rfl) (hs2 : starEach [b] X.env = [(false, eval b X.env)] := by rfl) :
    PID X tg (.Call (.Name "range" p) [a, b] [] pos) (eRng2 fa fb) := i_range2 (h.gl' i hi) (h.mgn hm) ha hb hs hs2
theorem Ctx.enum (h : Ctx M j c sc X) (i : Nat) {p tpos : Pos} {elts : List Expr} {kk : Nat} (hm : M.mg "enumerate" = none) (ha : PED X a fa) (hi : c.gl[i]? = some "enumerate" := by rfl) (hs : starEach [a] X.env = [(false, eval a X.env)] := by rfl) : PID X (.Tuple elts kk tpos) (.Call (.Name "enumerate" p) [a] [] pos) (eEnum fa) := i_enum (h.gl' i hi) (h.mgn hm) ha hs
theorem Ctx.zip (h : Ctx M j c sc X) (i : Nat) {p tpos : Pos} {elts : List Expr} {kk : Nat} (hm : M.mg "zip" = none) (ha : PED X a fa) (hb : PED X b fb) (hi : c.gl[i]? = some "zip" := by rfl) (hs : starEach [a, b] X.env = [(false, eval a X.env), (false, eval b X.env)] := by rfl) (hs2 : starEach [b] X.env = [(false, eval b X.env)] := by rfl) :
    PID X (.Tuple elts kk tpos) (.Call (.Name "zip" p) [a, b] [] pos) (eZip fa fb) := i_zip (h.gl' i hi) (h.mgn hm) ha hb hs hs2
/-- [elt for tg in iter if ..] -/
theorem Ctx.lc (h : Ctx M j c sc X) (c' : NmC) (own : List (Str × Nat)) {elt tg iter : Expr} {ifs : List Expr} {scope : Scope} {fi : DSt → Option (List D)} {g : D → DSt → Option DSt} {t : DSt → Option Bool} {f : DSt → Option D}
    (hi : PID X tg iter fi) (hN : c'.N = c.N) (ok : (blkC c.N sc scope own && cxC c' (relS scope sc) (fun x => scope.names.lookup x == some .cell)) = true)
    (hg : ∀ Y, Ctx M j c' (relS scope sc) Y → PGD Y tg (own.map (·.2)) g) (ht : ∀ Y, Ctx M j c' (relS scope sc) Y → PTsD Y ifs t) (he : ∀ Y, Ctx M j c' (relS scope sc) Y → PED Y elt f) (hs : ∀ x, foldedSetIterable iter X.env x = pure x := by intro _; rfl) :
    PFD X (.ListComp elt [⟨tg, iter, ifs, 0⟩] scope pos) (eLc fi g t f (own.map (·.2))) := by
  obtain ⟨ok1, ok2⟩ := Bool.and_eq_true_iff.mp ok
  exact f_lc h.calm (by rw [h.N_]; exact h.nd) hi (by rw [h.N_, h.scope]; exact blkOk_by ok1) (fun s H C cl fp => hg _ (h.blk hN ok2 s H C cl fp)) (fun s H C cl fp => ht _ (h.blk hN ok2 s H C cl fp)) (fun s H C cl fp => he _ (h.blk hN ok2 s H C cl fp)) hs
/-- name = [..] -/
theorem Ctx.lcS (h : Ctx M j c sc X) (i : Nat) (c' : NmC) (own : List (Str × Nat)) {y : Str} {py spos : Pos} {elt tg iter : Expr} {ifs : List Expr} {scope : Scope} {fi : DSt → Option (List D)} {g : D → DSt → Option DSt} {t : DSt → Option Bool} {f : DSt → Option D}
    (hi : PID X tg iter fi) (hN : c'.N = c.N) (ok : (blkC c.N sc scope own && cxC c' (relS scope sc) (fun x => scope.names.lookup x == some .cell) && !(scope.names.any fun (n, k) => n == y && (k == .local || k == .cell))) = true)
    (hg : ∀ Y, Ctx M j c' (relS scope sc) Y → PGD Y tg (own.map (·.2)) g) (ht : ∀ Y, Ctx M j c' (relS scope sc) Y → PTsD Y ifs t) (he : ∀ Y, Ctx M j c' (relS scope sc) Y → PED Y elt f)
    (hy : c.N[i]? = some y := by rfl) (hl : c.lb[i]? = some true := by rfl) (hln : (py.line == pos.line) = true := by rfl) (hs : ∀ x, foldedSetIterable iter X.env x = pure x := by intro _; rfl) :
    PS X (.Assign [.Name y py] (.ListComp elt [⟨tg, iter, ifs, 0⟩] scope pos) spos) (tAsg (tF X.K (eLc fi g t f (own.map (·.2)))) (gName i)) := by
  obtain ⟨ok, ok3⟩ := Bool.and_eq_true_iff.mp ok
  obtain ⟨ok1, ok2⟩ := Bool.and_eq_true_iff.mp ok
  have ky : X.env.scope.names.lookup y = some .local := by rw [h.scope]; exact h.loc i y hy hl
  exact lc_set h.calm (by rw [h.N_]; exact h.nd) (by rw [h.N_]; exact hy) ky (sw_true (by rw [h.scope]; exact h.kind) ky hln (by simpa using ok3)) hi (by rw [h.N_, h.scope]; exact blkOk_by ok1) (fun s H C cl fp => hg _ (h.blk hN ok2 s H C cl fp)) (fun s H C cl fp => ht _ (h.blk hN ok2 s H C cl fp)) (fun s H C cl fp => he _ (h.blk hN ok2 s H C cl fp)) hs
end

/-! ### a def -/
def runD (n p : Nat) (F : DSt → Option Fl) : List D → Option D := fun args => if args.length = p then match F (args.map (fun d => some (.val d)) ++ List.replicate (n - p) none) with
  | some (.nx _) => some .none
  | some (.ret d _) => some d
  | _ => none
  else none
def runF (n p : Nat) (F : DSt → Option Fl) : List D → Option D := fun args => if args.length = p then match F (args.map (fun d => some (.val d)) ++ List.replicate (n - p) none) with
  | some (.retF d _) => some d
  | _ => none
  else none
theorem hold_start {K : PySem.W.Frag} {B H : Hp} {vs : List V} {args : List D} (s : Same B H) (r : RpAll K B vs args) (n : Nat) : Hold K ⟨B, H, []⟩ B H (vs.map some ++ List.replicate n none) (args.map (fun d => some (L.val d)) ++ List.replicate n none) := by
  have hl := r.length
  have key : ∀ (i : Nat) x, (args.map (fun d => some (L.val d)) ++ List.replicate n none)[i]? = some (some x) → ∃ d, args[i]? = some d ∧ x = .val d := fun i x q => by
    by_cases hi : i < args.length
    · rw [List.getElem?_append_left (by rw [List.length_map]; exact hi), List.getElem?_map] at q
      obtain ⟨d, e, q⟩ := Option.map_eq_some_iff.mp q
      cases q
      exact ⟨d, e, rfl⟩
    · rw [List.getElem?_append_right (by rw [List.length_map]; omega)] at q
      have := List.mem_of_getElem? q
      rw [List.mem_replicate] at this
      cases this.2
  refine ⟨by simp [hl], s, Same.refl B, fun b o q _ => q, fun b o q => .inl q, fun i d q => ?_, fun i d l q => ?_, fun i j d e l m a q1 _ _ _ => ?_, fun p hp => (by cases hp), fun p hp => (by cases hp)⟩
  · obtain ⟨d', e, q⟩ := key i _ q
    cases q
    obtain ⟨v, e1, r1⟩ := r.get e
    refine ⟨v, ?_, r1⟩
    have hi : i < vs.length := (List.getElem?_eq_some_iff.mp e1).1
    rw [List.getElem?_append_left (by rw [List.length_map]; exact hi), List.getElem?_map, e1]
    rfl
  · obtain ⟨d', e, q⟩ := key i _ q
    cases q
  · obtain ⟨d', e, q⟩ := key i _ q1
    cases q
section
variable {M : MD} {x qual : Str} {st : Stmt} {f : Addr} {fd : FuncData} {N ps : List Str} {k : Nat} {c : NmC} {F : DSt → Option Fl}
/-- THE RULE for a def -/
theorem def_fn (Fn : Fun M.K x qual st f fd) (S : FnScope N ps (defScope st)) (hN : c.N = N) (hc : cxC c (defScope st) (fun _ => true) = true) (hb : ∀ X, Ctx M k c (defScope st) X → PSsD X (defBody st) F) :
    FnOk M.P M.w M.K M.mg M.base CX0 (k + 1) f fd ps (spD M.K (runD N.length ps.length F)) := by
  refine Fn.ok S (fun vs H Q E h => ?_) (fun cdv A outer s H vs Q E hr h => ?_)
  · obtain ⟨B, ds, r, _, ra, e, _⟩ := h
    unfold runD at e
    split at e
    · rename_i hl
      rw [ra.length]; exact hl
    · cases e
  · obtain ⟨B, ds, r, sb, ra, e, q⟩ := h
    refine ⟨_, hb _ (Ctx.mk' hc (fun _ _ => rfl) rfl rfl rfl rfl rfl hN.symm rfl hr rfl rfl), ?_⟩
    unfold runD at e
    split at e
    · rename_i hl
      have hv : vs.length = ps.length := by rw [ra.length]; exact hl
      have fin : ∀ {B' H' : Hp} {σ' : L2.St} {s' : DSt}, Same B B' → Hold M.K ⟨B, H, []⟩ B' H' σ' s' → Same B' H' ∧ Same H H' ∧ ∀ b o, B' b = some o → B b = some o ∨ (B b = none ∧ H b = none) := fun _ h' => ⟨h'.bh, fun b o q => h'.keep b o q (fun i hi => by cases hi), h'.fresh⟩
      split at e
      · rename_i s1 e1
        cases e
        refine ⟨⟨B, H, []⟩, B, _, .nx s1, by unfold L2.start; rw [hv]; exact hold_start sb ra _, e1, fun B' H' σ' s' h' => ?_⟩
        obtain ⟨q1, q2, q3⟩ := fin s' h'
        exact q B' H' .non s' q1 q2 q3 .non
      · rename_i d s1 e1
        cases e
        refine ⟨⟨B, H, []⟩, B, _, .ret r s1, by unfold L2.start; rw [hv]; exact hold_start sb ra _, e1, fun B' H' σ' v s' h' r' => ?_⟩
        obtain ⟨q1, q2, q3⟩ := fin s' h'
        exact q B' H' v s' q1 q2 q3 r'
      · cases e
    · cases e
theorem def_ok (Fn : Fun M.K x qual st f fd) (S : FnScope N ps (defScope st)) (hN : c.N = N) (hc : cxC c (defScope st) (fun _ => true) = true) (hb : ∀ X, Ctx M k c (defScope st) X → PSsD X (defBody st) F) (hx : M.mg x = some (.ref f)) (bn : Binds M.K fd ps []) :
    DefD M (k + 1) x (runD N.length ps.length F) := ⟨f, fd, ps, def_fn Fn S hN hc hb, hx, Fn.kp, bn⟩
theorem def_okF (Fn : Fun M.K x qual st f fd) (S : FnScope N ps (defScope st)) (hN : c.N = N) (hc : cxC c (defScope st) (fun _ => true) = true) (hb : ∀ X, Ctx M k c (defScope st) X → PSsD X (defBody st) F) (hx : M.mg x = some (.ref f)) (bn : Binds M.K fd ps []) :
    DefF M (k + 1) x (runF N.length ps.length F) := by
  refine ⟨f, fd, ps, ?_, hx, Fn.kp, bn⟩
  refine Fn.ok S (fun vs H Q E h => ?_) (fun cdv A outer s H vs Q E hr h => ?_)
  · obtain ⟨B, ds, r, _, ra, e, _⟩ := h
    unfold runF at e
    split at e
    · rename_i hl
      rw [ra.length]; exact hl
    · cases e
  · obtain ⟨B, ds, r, sb, ra, e, q⟩ := h
    refine ⟨_, hb _ (Ctx.mk' hc (fun _ _ => rfl) rfl rfl rfl rfl rfl hN.symm rfl hr rfl rfl), ?_⟩
    unfold runF at e
    split at e
    · rename_i hl
      have hv : vs.length = ps.length := by rw [ra.length]; exact hl
      split at e
      · rename_i d s1 e1
        cases e
        refine ⟨⟨B, H, []⟩, B, _, .retF r s1, by unfold L2.start; rw [hv]; exact hold_start sb ra _, e1, fun B' H' σ' a s' h' w => ?_⟩
        exact q B' H' a s' h'.bh (fun b o q => h'.keep b o q (fun i hi => by cases hi)) h'.fresh w.g w.b w.at_
      · cases e
    · cases e
/-- a def that hands out a new list hands out data -/
theorem DefF.data {den : List D → Option D} (h : DefF M k x den) : DefD M k x den := by
  obtain ⟨f, fd, ps, F, r⟩ := h.ex
  refine ⟨f, fd, ps, F.imp fun vs H Q E ⟨B, ds, r, sb, ra, e, q⟩ => ⟨B, ds, r, sb, ra, e, fun B' H' a s bh sh fr n bn o => ?_⟩, r⟩
  obtain ⟨u, hu⟩ := o.there
  have s' := same_updB (o := u) bn
  refine q (upd B' a u) H' _ (s.trans s') (fun b w z => ?_) sh (fun b w z => ?_) ?_
  · by_cases hb : b = a
    · subst hb; rw [upd_same] at z; rw [← z]; exact hu
    · rw [upd_ne hb] at z; exact bh _ _ z
  · by_cases hb : b = a
    · subst hb
      exact .inr ⟨s.free bn, n⟩
    · rw [upd_ne hb] at z; exact fr b w z
  · cases r with
    | list xs =>
      obtain ⟨vs, h1, h2⟩ := o
      rw [hu] at h1; cases h1
      exact .lst (.inl (.inl upd_same)) (h2.mono s')
    | dict ps =>
      obtain ⟨vs, h1, h2⟩ := o
      rw [hu] at h1; cases h1
      exact .dic upd_same (h2.mono s')
    | _ => exact (show False from o).elim
end
end DL

set_option Elab.async false
set_option linter.all false
set_option autoImplicit false
set_option maxRecDepth 100000
set_option maxHeartbeats 4000000
namespace DL
open PySem PySem.Spec PyProof.Rows L2

/-! ### built-ins by data -/
def CaD (K : PySem.W.Frag) (r : List V → Hp → VK → Prop) (g : List D → Option D) : Prop := ∀ Γ B H σ ds vs xs d Q, Hold K Γ B H σ ds → RpAll K B vs xs → g xs = some d → Wn K Γ B σ ds d Q → r vs H Q
/-- a new list or dict -/
def CaF (K : PySem.W.Frag) (r : List V → Hp → VK → Prop) (g : List D → Option D) : Prop := ∀ Γ B H σ ds vs xs d (Q : VK), Hold K Γ B H σ ds → RpAll K B vs xs → g xs = some d →
  (∀ B' H' a, Same B B' → Hold K Γ B' H' σ ds → NewOwn K Γ B' H' σ ds a d → Q (.ref a) H') → r vs H Q
section
variable {M : MD} {j : Nat} {c : NmC} {sc : Scope} {X : Cx} {pos : Pos} {a b e : Expr} {fa fb : DSt → Option D} {es : List Expr} {fs : DSt → Option (List D)} {r : List V → Hp → VK → Prop} {g : List D → Option D}
theorem ca_go {K : PySem.W.Frag} (hr : CaD K r g) {σ : L2.St} {H : Hp} {Q : VK} (q : tE K (eCall g fs) σ H Q) : tCB r (tEs K fs) σ H Q := by
  obtain ⟨Γ, B, ds, d, hH, e, k⟩ := q
  obtain ⟨xs, h1, h2⟩ := Option.bind_eq_some_iff.mp e
  exact ⟨Γ, B, ds, xs, hH, h1, fun B1 H1 vs s1 hH1 r1 => hr Γ B1 H1 σ ds vs xs d Q hH1 r1 h2 fun B2 H2 w s2 hH2 r2 => k B2 H2 w (s1.trans s2) hH2 r2⟩
theorem caF_go {K : PySem.W.Frag} (hr : CaF K r g) {σ : L2.St} {H : Hp} {Q : VK} (q : tF K (eCall g fs) σ H Q) : tCB r (tEs K fs) σ H Q := by
  obtain ⟨Γ, B, ds, d, hH, e, k⟩ := q
  obtain ⟨xs, h1, h2⟩ := Option.bind_eq_some_iff.mp e
  exact ⟨Γ, B, ds, xs, hH, h1, fun B1 H1 vs s1 hH1 r1 => hr Γ B1 H1 σ ds vs xs d Q hH1 r1 h2 fun B2 H2 w s2 hH2 r2 => k B2 H2 w (s1.trans s2) hH2 r2⟩
/-- a built-in function -/
theorem Ctx.blt (h : Ctx M j c sc X) (i : Nat) {x : Str} {p : Pos} {id : String} (hc : CallR X (.builtin id) r) (hr : CaD X.K r g) (hm : M.mg x = none) (hv : bootBuiltins x = some (.builtin id)) (ha : PAD X (a :: es) fs) (hi : c.gl[i]? = some x := by rfl)
    (hs : starEach (a :: es) X.env = (false, eval a X.env) :: starEach es X.env := by rfl) (hp : (backTo pos (starEach es X.env)).any (·.1) = false := by rfl) : PED X (.Call (.Name x p) (a :: es) [] pos) (eCall g fs) :=
  peM (pe_callB hc (h.gl' i hi) (h.mgn hm) hv ha (h.glo i x hi).2.2 (h.glo i x hi).2.1 hs hp) fun σ H Q q => ca_go hr q
theorem Ctx.bltF (h : Ctx M j c sc X) (i : Nat) {x : Str} {p : Pos} {id : String} (hc : CallR X (.builtin id) r) (hr : CaF X.K r g) (hm : M.mg x = none) (hv : bootBuiltins x = some (.builtin id)) (ha : PAD X (a :: es) fs) (hi : c.gl[i]? = some x := by rfl)
    (hs : starEach (a :: es) X.env = (false, eval a X.env) :: starEach es X.env := by rfl) (hp : (backTo pos (starEach es X.env)).any (·.1) = false := by rfl) : PFD X (.Call (.Name x p) (a :: es) [] pos) (eCall g fs) :=
  peM (pe_callB hc (h.gl' i hi) (h.mgn hm) hv ha (h.glo i x hi).2.2 (h.glo i x hi).2.1 hs hp) fun σ H Q q => caF_go hr q
/-- a built-in type -/
theorem Ctx.bty (h : Ctx M j c sc X) (i : Nat) {x : Str} {p : Pos} {T : String} (hc : CallR X (.type T) r) (hr : CaD X.K r g) (hm : M.mg x = none) (hv : bootBuiltins x = some (.type T)) (ha : PAD X (a :: es) fs) (hi : c.gl[i]? = some x := by rfl)
    (hs : starEach (a :: es) X.env = (false, eval a X.env) :: starEach es X.env := by rfl) (hp : (backTo pos (starEach es X.env)).any (·.1) = false := by rfl) : PED X (.Call (.Name x p) (a :: es) [] pos) (eCall g fs) :=
  peM (pe_callTy hc (h.gl' i hi) (h.mgn hm) hv ha (h.glo i x hi).2.2 (h.glo i x hi).2.1 hs hp) fun σ H Q q => ca_go hr q
theorem Ctx.btyF (h : Ctx M j c sc X) (i : Nat) {x : Str} {p : Pos} {T : String} (hc : CallR X (.type T) r) (hr : CaF X.K r g) (hm : M.mg x = none) (hv : bootBuiltins x = some (.type T)) (ha : PAD X (a :: es) fs) (hi : c.gl[i]? = some x := by rfl)
    (hs : starEach (a :: es) X.env = (false, eval a X.env) :: starEach es X.env := by rfl) (hp : (backTo pos (starEach es X.env)).any (·.1) = false := by rfl) : PFD X (.Call (.Name x p) (a :: es) [] pos) (eCall g fs) :=
  peM (pe_callTy hc (h.gl' i hi) (h.mgn hm) hv ha (h.glo i x hi).2.2 (h.glo i x hi).2.1 hs hp) fun σ H Q q => caF_go hr q
theorem RpAll.one {K : PySem.W.Frag} {B : Hp} {vs : List V} {x : D} (r : RpAll K B vs [x]) : ∃ v, vs = [v] ∧ Rp K B v x := by
  cases r with
  | cons r t => cases t; exact ⟨_, rfl, r⟩
theorem RpAll.two {K : PySem.W.Frag} {B : Hp} {vs : List V} {x y : D} (r : RpAll K B vs [x, y]) : ∃ v w, vs = [v, w] ∧ Rp K B v x ∧ Rp K B w y := by
  cases r with
  | cons r t =>
    obtain ⟨w, rfl, q⟩ := t.one
    exact ⟨_, _, rfl, r, q⟩

/-! len -/
@[simp] def dLen : List D → Option D
  | [.str x] => some (.int x.length)
  | [.list xs] => some (.int xs.length)
  | [.tuple xs] => some (.int xs.length)
  | [.dict ps] => some (.int ps.length)
  | _ => none
def rLenD (K : PySem.W.Frag) : List V → Hp → VK → Prop := fun xs H Q => (∃ x n, xs = [x] ∧ LenV K x H n ∧ Q (.int n) H) ∨ ∃ a kvs, xs = [V.ref a] ∧ H a = some (.dK kvs) ∧ Q (.int kvs.length) H
theorem call_lenA : CallR X (.builtin "len") (rLenD X.K) := call_len.or call_lenD
theorem dLen_ok {K : PySem.W.Frag} : CaD K (rLenD K) dLen := by
  intro Γ B H σ ds vs xs d Q hH r h k
  unfold dLen at h
  split at h
  · obtain ⟨v, rfl, q⟩ := r.one
    cases h
    cases q with
    | str _ hs => exact .inl ⟨_, _, rfl, ⟨sOk_len hs, rfl⟩, k B H _ (Same.refl B) hH (.int _)⟩
  · obtain ⟨v, rfl, q⟩ := r.one
    cases h
    obtain ⟨p, ws, rfl, q, t⟩ := q.unlst
    refine .inl ⟨_, ws.length, rfl, .inl ⟨ws, (hH.bh.seq q), rfl⟩, ?_⟩
    rw [t.length]
    exact k B H _ (Same.refl B) hH (.int _)
  · obtain ⟨v, rfl, q⟩ := r.one
    cases h
    obtain ⟨p, ws, rfl, q, t⟩ := q.untup
    refine .inl ⟨_, ws.length, rfl, .inr ⟨ws, sameT hH.bh q, rfl⟩, ?_⟩
    rw [t.length]
    exact k B H _ (Same.refl B) hH (.int _)
  · obtain ⟨v, rfl, q⟩ := r.one
    cases h
    obtain ⟨p, ws, rfl, q, t⟩ := q.undic
    refine .inr ⟨p, ws, rfl, hH.bh _ _ q, ?_⟩
    rw [t.length]
    exact k B H _ (Same.refl B) hH (.int _)
  · cases h
theorem Ctx.len (h : Ctx M j c sc X) (i : Nat) {p : Pos} (hm : M.mg "len" = none) (ha : PAD X [a] fs) (hi : c.gl[i]? = some "len" := by rfl)
    (hs : starEach [a] X.env = (false, eval a X.env) :: starEach [] X.env := by rfl) : PED X (.Call (.Name "len" p) [a] [] pos) (eCall dLen fs) := h.blt i call_lenA dLen_ok hm PySem.boot_len ha hi hs rfl

/-! int, of ints and bools -/
@[simp] def dInt : List D → Option D
  | [.int i] => some (.int i)
  | [.bool b] => some (.int (if b then 1 else 0))
  | _ => none
theorem dInt_ok {K : PySem.W.Frag} : CaD K (fun xs H Q => (∃ i, xs = [V.int i] ∧ Q (.int i) H) ∨ ∃ k, xs = [V.bl k] ∧ Q (.int (if k then 1 else 0)) H) dInt := by
  intro Γ B H σ ds vs xs d Q hH r h k
  unfold dInt at h
  split at h
  · obtain ⟨v, rfl, q⟩ := r.one
    cases h; cases q
    exact .inl ⟨_, rfl, k B H _ (Same.refl B) hH (.int _)⟩
  · obtain ⟨v, rfl, q⟩ := r.one
    cases h; cases q
    exact .inr ⟨_, rfl, k B H _ (Same.refl B) hH (.int _)⟩
  · cases h
theorem Ctx.int (h : Ctx M j c sc X) (i : Nat) {p : Pos} (hm : M.mg "int" = none) (ha : PAD X [a] fs) (hi : c.gl[i]? = some "int" := by rfl)
    (hs : starEach [a] X.env = (false, eval a X.env) :: starEach [] X.env := by rfl) : PED X (.Call (.Name "int" p) [a] [] pos) (eCall dInt fs) := h.bty i call_int1 dInt_ok hm (by decide +kernel) ha hi hs rfl

/-! min, max of two ints -/
@[simp] def dMax2 : List D → Option D
  | [.int i, .int j] => some (.int (if j > i then j else i))
  | _ => none
@[simp] def dMin2 : List D → Option D
  | [.int i, .int j] => some (.int (if j < i then j else i))
  | _ => none
theorem dMax2_ok {K : PySem.W.Frag} : CaD K (fun xs H Q => ∃ i j, xs = [V.int i, .int j] ∧ Q (.int (if j > i then j else i)) H) dMax2 := by
  intro Γ B H σ ds vs xs d Q hH r h k
  unfold dMax2 at h
  split at h
  · obtain ⟨v, w, rfl, q1, q2⟩ := r.two
    cases h; cases q1; cases q2
    exact ⟨_, _, rfl, k B H _ (Same.refl B) hH (.int _)⟩
  · cases h
theorem dMin2_ok {K : PySem.W.Frag} : CaD K (fun xs H Q => ∃ i j, xs = [V.int i, .int j] ∧ Q (.int (if j < i then j else i)) H) dMin2 := by
  intro Γ B H σ ds vs xs d Q hH r h k
  unfold dMin2 at h
  split at h
  · obtain ⟨v, w, rfl, q1, q2⟩ := r.two
    cases h; cases q1; cases q2
    exact ⟨_, _, rfl, k B H _ (Same.refl B) hH (.int _)⟩
  · cases h
theorem Ctx.max2 (h : Ctx M j c sc X) (i : Nat) {p : Pos} (hm : M.mg "max" = none) (ha : PAD X [a, b] fs) (hi : c.gl[i]? = some "max" := by rfl)
    (hs : starEach [a, b] X.env = (false, eval a X.env) :: starEach [b] X.env := by rfl) (hp : (backTo pos (starEach [b] X.env)).any (·.1) = false := by rfl) : PED X (.Call (.Name "max" p) [a, b] [] pos) (eCall dMax2 fs) := h.blt i (call_max2 h.calm) dMax2_ok hm (by decide +kernel) ha hi hs hp
theorem Ctx.min2 (h : Ctx M j c sc X) (i : Nat) {p : Pos} (hm : M.mg "min" = none) (ha : PAD X [a, b] fs) (hi : c.gl[i]? = some "min" := by rfl)
    (hs : starEach [a, b] X.env = (false, eval a X.env) :: starEach [b] X.env := by rfl) (hp : (backTo pos (starEach [b] X.env)).any (·.1) = false := by rfl) : PED X (.Call (.Name "min" p) [a, b] [] pos) (eCall dMin2 fs) := h.blt i (call_min2 h.calm) dMin2_ok hm (by decide +kernel) ha hi hs hp

/-! all, any of lists of bools; sum of ints -/
@[simp] def boolsOf : List D → Option (List Bool)
  | [] => some []
  | .bool b :: r => (boolsOf r).map fun l => b :: l
  | _ => none
@[simp] def intsOf : List D → Option (List Int)
  | [] => some []
  | .int b :: r => (intsOf r).map fun l => b :: l
  | _ => none
@[simp] def strsOf : List D → Option (List Str)
  | [] => some []
  | .str b :: r => (strsOf r).map fun l => b :: l
  | _ => none
theorem boolsOf_some : ∀ {l : List D} {bs : List Bool}, boolsOf l = some bs → l = bs.map .bool
  | [], _, h => by cases h; rfl
  | .bool b :: r, _, h => by
    obtain ⟨l, h1, rfl⟩ := Option.map_eq_some_iff.mp h
    rw [boolsOf_some h1]; rfl
  | .none :: _, _, h | .int _ :: _, _, h | .str _ :: _, _, h | .list _ :: _, _, h | .tuple _ :: _, _, h | .dict _ :: _, _, h => by cases h
theorem intsOf_some : ∀ {l : List D} {bs : List Int}, intsOf l = some bs → l = bs.map .int
  | [], _, h => by cases h; rfl
  | .int b :: r, _, h => by
    obtain ⟨l, h1, rfl⟩ := Option.map_eq_some_iff.mp h
    rw [intsOf_some h1]; rfl
  | .none :: _, _, h | .bool _ :: _, _, h | .str _ :: _, _, h | .list _ :: _, _, h | .tuple _ :: _, _, h | .dict _ :: _, _, h => by cases h
theorem strsOf_some : ∀ {l : List D} {bs : List Str}, strsOf l = some bs → l = bs.map .str
  | [], _, h => by cases h; rfl
  | .str b :: r, _, h => by
    obtain ⟨l, h1, rfl⟩ := Option.map_eq_some_iff.mp h
    rw [strsOf_some h1]; rfl
  | .none :: _, _, h | .bool _ :: _, _, h | .int _ :: _, _, h | .list _ :: _, _, h | .tuple _ :: _, _, h | .dict _ :: _, _, h => by cases h
@[simp] def dAll : List D → Option D
  | [.list l] => (boolsOf l).map fun bs => .bool (bs.all id)
  | _ => none
@[simp] def dAny : List D → Option D
  | [.list l] => (boolsOf l).map fun bs => .bool (bs.any id)
  | _ => none
@[simp] def dSum : List D → Option D
  | [.list l] => (intsOf l).map fun bs => .int bs.sum
  | _ => none
theorem dAll_ok {K : PySem.W.Frag} : CaD K (rAll K) dAll := by
  intro Γ B H σ ds vs xs d Q hH r h k
  unfold dAll at h
  split at h
  · obtain ⟨bs, h1, rfl⟩ := Option.map_eq_some_iff.mp h
    cases boolsOf_some h1
    obtain ⟨v, rfl, q⟩ := r.one
    obtain ⟨p, ws, rfl, q, t⟩ := q.unlst
    cases t.bools
    exact ⟨p, bs, rfl, (hH.bh.seq q), k B H _ (Same.refl B) hH (.bl _)⟩
  · cases h
theorem dAny_ok {K : PySem.W.Frag} : CaD K (rAny K) dAny := by
  intro Γ B H σ ds vs xs d Q hH r h k
  unfold dAny at h
  split at h
  · obtain ⟨bs, h1, rfl⟩ := Option.map_eq_some_iff.mp h
    cases boolsOf_some h1
    obtain ⟨v, rfl, q⟩ := r.one
    obtain ⟨p, ws, rfl, q, t⟩ := q.unlst
    cases t.bools
    exact ⟨p, bs, rfl, (hH.bh.seq q), k B H _ (Same.refl B) hH (.bl _)⟩
  · cases h
theorem dSum_ok {K : PySem.W.Frag} : CaD K (rSum K) dSum := by
  intro Γ B H σ ds vs xs d Q hH r h k
  unfold dSum at h
  split at h
  · obtain ⟨bs, h1, rfl⟩ := Option.map_eq_some_iff.mp h
    cases intsOf_some h1
    obtain ⟨v, rfl, q⟩ := r.one
    obtain ⟨p, ws, rfl, q, t⟩ := q.unlst
    cases t.ints
    exact ⟨p, bs, rfl, (hH.bh.seq q), k B H _ (Same.refl B) hH (.int _)⟩
  · cases h
theorem Ctx.all_ (h : Ctx M j c sc X) (i : Nat) {p : Pos} (hm : M.mg "all" = none) (ha : PAD X [a] fs) (hi : c.gl[i]? = some "all" := by rfl) (hs : starEach [a] X.env = (false, eval a X.env) :: starEach [] X.env := by rfl) : PED X (.Call (.Name "all" p) [a] [] pos) (eCall dAll fs) := h.blt i (cr_all h.calm) dAll_ok hm (by decide +kernel) ha hi hs rfl
theorem Ctx.any_ (h : Ctx M j c sc X) (i : Nat) {p : Pos} (hm : M.mg "any" = none) (ha : PAD X [a] fs) (hi : c.gl[i]? = some "any" := by rfl) (hs : starEach [a] X.env = (false, eval a X.env) :: starEach [] X.env := by rfl) : PED X (.Call (.Name "any" p) [a] [] pos) (eCall dAny fs) := h.blt i (cr_any h.calm) dAny_ok hm (by decide +kernel) ha hi hs rfl
theorem Ctx.sum_ (h : Ctx M j c sc X) (i : Nat) {p : Pos} (hm : M.mg "sum" = none) (ha : PAD X [a] fs) (hi : c.gl[i]? = some "sum" := by rfl) (hs : starEach [a] X.env = (false, eval a X.env) :: starEach [] X.env := by rfl) : PED X (.Call (.Name "sum" p) [a] [] pos) (eCall dSum fs) := h.blt i (cr_sum h.calm) dSum_ok hm (by decide +kernel) ha hi hs rfl

/-! list(..) of a list or a tuple; tuple(..) of a list -/
@[simp] def dList : List D → Option D
  | [.list l] => some (.list l)
  | [.tuple l] => some (.list l)
  | _ => none
theorem dList_ok {K : PySem.W.Frag} : CaF K (fun xs H Q => ∃ p ys, xs = [V.ref p] ∧ (SqL K H p ys ∨ SqT K H p ys) ∧ ∀ l, H l = none → Q (.ref l) (upd H l (.lst ys))) dList := by
  intro Γ B H σ ds vs xs d Q hH r h k
  unfold dList at h
  split at h
  · cases h
    obtain ⟨v, rfl, q⟩ := r.one
    obtain ⟨p, ws, rfl, q, t⟩ := q.unlst
    exact ⟨p, ws, rfl, .inl ((hH.bh.seq q)), Wn.lstF hH t k⟩
  · cases h
    obtain ⟨v, rfl, q⟩ := r.one
    obtain ⟨p, ws, rfl, q, t⟩ := q.untup
    exact ⟨p, ws, rfl, .inr (sameT hH.bh q), Wn.lstF hH t k⟩
  · cases h
theorem Ctx.listF (h : Ctx M j c sc X) (i : Nat) {p : Pos} (hm : M.mg "list" = none) (ha : PAD X [a] fs) (hi : c.gl[i]? = some "list" := by rfl) (hs : starEach [a] X.env = (false, eval a X.env) :: starEach [] X.env := by rfl) : PFD X (.Call (.Name "list" p) [a] [] pos) (eCall dList fs) := h.btyF i call_list_of dList_ok hm (by decide +kernel) ha hi hs rfl
@[simp] def dTuple : List D → Option D
  | [.list l] => some (.tuple l)
  | [.tuple l] => some (.tuple l)
  | _ => none
theorem dTuple_ok {K : PySem.W.Frag} : CaD K (fun xs H Q => ∃ p ys, xs = [V.ref p] ∧ ((SqL K H p ys ∧ ∀ l, H l = none → Q (.ref l) (upd H l (.tup ys))) ∨ (SqT K H p ys ∧ Q (.ref p) H))) dTuple := by
  intro Γ B H σ ds vs xs d Q hH r h k
  unfold dTuple at h
  split at h
  · cases h
    obtain ⟨v, rfl, q⟩ := r.one
    obtain ⟨p, ws, rfl, q, t⟩ := q.unlst
    exact ⟨p, ws, rfl, .inl ⟨(hH.bh.seq q), Wn.tup hH t k⟩⟩
  · cases h
    obtain ⟨v, rfl, q⟩ := r.one
    obtain ⟨p, ws, rfl, q, t⟩ := q.untup
    exact ⟨p, ws, rfl, .inr ⟨sameT hH.bh q, k B H _ (Same.refl B) hH (.tup q t)⟩⟩
  · cases h
theorem Ctx.tuple_ (h : Ctx M j c sc X) (i : Nat) {p : Pos} (hm : M.mg "tuple" = none) (ha : PAD X [a] fs) (hi : c.gl[i]? = some "tuple" := by rfl) (hs : starEach [a] X.env = (false, eval a X.env) :: starEach [] X.env := by rfl) : PED X (.Call (.Name "tuple" p) [a] [] pos) (eCall dTuple fs) := h.bty i call_tuple_of dTuple_ok hm (by decide +kernel) ha hi hs rfl

/-! isinstance with a built-in class -/
@[simp] def tyD : D → String
  | .none => "NoneType"
  | .bool _ => "bool"
  | .int _ => "int"
  | .str _ => "str"
  | .list _ => "list"
  | .tuple _ => "tuple"
  | .dict _ => "dict"
@[simp] def isT (T : String) (d : D) : Bool := match d with
  | .bool _ => T == "bool" || T == "int"
  | d => tyD d == T
theorem Rp.ty {K : PySem.W.Frag} {B H : Hp} {v : V} {d : D} (s : Same B H) (r : Rp K B v d) : TyX K H v (.type (tyD d)) := by
  cases r with
  | non => exact .base .non
  | bl b => exact .base (.bl b)
  | int i => exact .base (.int i)
  | str x h => exact .base (.str x)
  | lst h t =>
    rcases h with (h | ⟨o, h⟩) | ⟨o, its, n, hk, hc, _⟩
    · exact .base (.lst (s _ _ h))
    · exact .base (.frz (s _ _ h))
    · exact .kList hk hc
  | tup h t =>
    rcases h with (h | ⟨o, h⟩) | ⟨o, its, n, hk, hc, _⟩
    · exact .base (.tup (s _ _ h))
    · exact .fTuple (s _ _ h)
    · exact .kTuple hk hc
  | dic h t => exact .base (.dK (s _ _ h))
def okT (T : String) : Bool := ["NoneType", "bool", "int", "str", "list", "tuple", "dict"].all fun t => decide (kitB t T = some (t == T || (t == "bool" && T == "int")))
theorem kit_isT {K : PySem.W.Frag} {T : String} (h : okT T = true) (d : D) : PySem.W.kitOne K (.type (tyD d)) (.type T) = some (isT T d) := by
  unfold okT at h
  simp only [List.all_cons, List.all_nil, Bool.and_true, Bool.and_eq_true, decide_eq_true_eq] at h
  obtain ⟨h1, h2, h3, h4, h5, h6, h7⟩ := h
  cases d with
  | none => exact kit_ty (by show kitB "NoneType" T = some ("NoneType" == T); rw [h1]; simp)
  | bool b =>
    refine kit_ty (by show kitB "bool" T = some (T == "bool" || T == "int"); rw [h2]; simp; rw [Bool.beq_comm])
  | int b => exact kit_ty (by show kitB "int" T = some ("int" == T); rw [h3]; simp)
  | str b => exact kit_ty (by show kitB "str" T = some ("str" == T); rw [h4]; simp)
  | list b => exact kit_ty (by show kitB "list" T = some ("list" == T); rw [h5]; simp)
  | tuple b => exact kit_ty (by show kitB "tuple" T = some ("tuple" == T); rw [h6]; simp)
  | dict b => exact kit_ty (by show kitB "dict" T = some ("dict" == T); rw [h7]; simp)
@[simp] def dIsT (T : String) (d : D) : Option D := some (.bool (isT T d))
theorem Ctx.isi (h : Ctx M j c sc X) (i k : Nat) (T : String) {x : Str} {p p2 : Pos} (hm : M.mg "isinstance" = none) (hmT : M.mg x = none) (hT : bootBuiltins x = some (.type T)) (ok : okT T = true) (ha : PED X a fa) (hi : c.gl[i]? = some "isinstance" := by rfl) (hk : c.gl[k]? = some x := by rfl)
    (hs : starEach [a, .Name x p2] X.env = (false, eval a X.env) :: starEach [.Name x p2] X.env := by rfl) (hs2 : starEach [.Name x p2] X.env = (false, eval (.Name x p2) X.env) :: starEach [] X.env := by rfl) (hp : (backTo pos (starEach [.Name x p2] X.env)).any (·.1) = false := by rfl) :
    PED X (.Call (.Name "isinstance" p) [a, .Name x p2] [] pos) (e1 (dIsT T) fa) := by
  refine peM (pe_callB call_isi (h.gl' i hi) (h.mgn hm) (by decide +kernel) (pa_cons ha (pa_cons (pe_bltn (v := .ty T) (h.gl' k hk) (h.mgn hmT) hT rfl (h.glo k x hk).2.2 (h.glo k x hk).2.1) pa_nil hs2) hs) (h.glo i _ hi).2.2 (h.glo i _ hi).2.1 hs hp) fun σ H Q q => ?_
  obtain ⟨Γ, B, ds, d, hH, e, k⟩ := q
  obtain ⟨x, h1, h2⟩ := e1_some e
  cases h2
  exact ⟨Γ, B, ds, x, hH, h1, fun B1 H1 v s1 hH1 r1 => ⟨v, .ty T, _, _, isT T x, rfl, .ty T, r1.ty hH1.bh, kit_isT ok x, k B1 H1 _ s1 hH1 (.bl _)⟩⟩

/-! ### methods of texts -/
theorem Rp.isStr {K : PySem.W.Frag} {B : Hp} {v : V} {x : Str} (r : Rp K B v (.str x)) : v = .str x ∧ sOk x = true := by
  cases r with
  | str _ h => exact ⟨rfl, h⟩
@[simp] def eM (g : Str → List D → Option D) (fa : DSt → Option D) (fs : DSt → Option (List D)) : DSt → Option D := fun s => (fa s).bind fun x => match x with
  | .str x => (fs s).bind fun xs => g x xs
  | _ => none
theorem eM_some {g : Str → List D → Option D} {s : DSt} {d : D} (h : eM g fa fs s = some d) : ∃ x xs, fa s = some (.str x) ∧ fs s = some xs ∧ g x xs = some d := by
  unfold eM at h
  obtain ⟨x, h1, h⟩ := Option.bind_eq_some_iff.mp h
  cases x with
  | str x =>
    obtain ⟨xs, h2, h⟩ := Option.bind_eq_some_iff.mp h
    exact ⟨x, xs, h1, h2, h⟩
  | _ => cases h
def SmD (K : PySem.W.Frag) (r : V → List V → Hp → VK → Prop) (g : Str → List D → Option D) : Prop := ∀ Γ B H σ ds x vs xs d Q, Hold K Γ B H σ ds → sOk x = true → RpAll K B vs xs → g x xs = some d → Wn K Γ B σ ds d Q → r (.str x) vs H Q
def SmF (K : PySem.W.Frag) (r : V → List V → Hp → VK → Prop) (g : Str → List D → Option D) : Prop := ∀ Γ B H σ ds x vs xs d (Q : VK), Hold K Γ B H σ ds → sOk x = true → RpAll K B vs xs → g x xs = some d →
  (∀ B' H' a, Same B B' → Hold K Γ B' H' σ ds → NewOwn K Γ B' H' σ ds a d → Q (.ref a) H') → r (.str x) vs H Q
section
variable {rm : V → List V → Hp → VK → Prop} {gm : Str → List D → Option D} {name : Str} {apos cpos : Pos} {id : String} {o : Expr} {fo : DSt → Option D}
theorem d_sm (slot : Slot "str" name id) (hty : typeOf (.builtin id) = pure (.type "method_descriptor")) (hm : MtR X id rm) (hr : SmD X.K rm gm) (ho : PED X o fo) (ha : PAD X (a :: es) fs)
    (hbase : attributeBase o name X.env (eval o X.env) = eval o X.env := by rfl)
    (hfew : ((backTo cpos (starEach (a :: es) X.env)).all (fun x => !x.1) && (backToKw cpos (keywordEach [] X.env)).all (fun x => x.1.isSome) && decide ((a :: es).length + ([] : List Keyword).length + (if ([] : List Keyword).isEmpty then 0 else 1) < 30)) = true := by rfl)
    (hline : (apos.endLine == cpos.line) = true := by rfl) (hs : starEach (a :: es) X.env = (false, eval a X.env) :: starEach es X.env := by rfl) (hplain : (backTo cpos (starEach es X.env)).any (·.1) = false := by rfl) :
    PED X (.Call (.Attribute o name apos) (a :: es) [] cpos) (eM gm fo fs) := by
  refine peM (pe_bm PySem.F.plainAttrs_str slot hty hm ho ha hbase hfew hline hs hplain) fun σ H Q q => ?_
  obtain ⟨Γ, B, ds, d, hH, e, k⟩ := q
  obtain ⟨x, xs, h1, h2, h3⟩ := eM_some e
  refine ⟨Γ, B, ds, _, hH, h1, fun B1 H1 v s1 hH1 r1 => ?_⟩
  obtain ⟨rfl, hx⟩ := r1.isStr
  exact ⟨rfl, Γ, B1, ds, xs, hH1, h2, fun B2 H2 vs s2 hH2 r2 => hr Γ B2 H2 σ ds x vs xs d Q hH2 hx r2 h3 fun B3 H3 w s3 hH3 r3 => k B3 H3 w ((s1.trans s2).trans s3) hH3 r3⟩
theorem f_sm (slot : Slot "str" name id) (hty : typeOf (.builtin id) = pure (.type "method_descriptor")) (hm : MtR X id rm) (hr : SmF X.K rm gm) (ho : PED X o fo) (ha : PAD X (a :: es) fs)
    (hbase : attributeBase o name X.env (eval o X.env) = eval o X.env := by rfl)
    (hfew : ((backTo cpos (starEach (a :: es) X.env)).all (fun x => !x.1) && (backToKw cpos (keywordEach [] X.env)).all (fun x => x.1.isSome) && decide ((a :: es).length + ([] : List Keyword).length + (if ([] : List Keyword).isEmpty then 0 else 1) < 30)) = true := by rfl)
    (hline : (apos.endLine == cpos.line) = true := by rfl) (hs : starEach (a :: es) X.env = (false, eval a X.env) :: starEach es X.env := by rfl) (hplain : (backTo cpos (starEach es X.env)).any (·.1) = false := by rfl) :
    PFD X (.Call (.Attribute o name apos) (a :: es) [] cpos) (eM gm fo fs) := by
  refine peM (pe_bm PySem.F.plainAttrs_str slot hty hm ho ha hbase hfew hline hs hplain) fun σ H Q q => ?_
  obtain ⟨Γ, B, ds, d, hH, e, k⟩ := q
  obtain ⟨x, xs, h1, h2, h3⟩ := eM_some e
  refine ⟨Γ, B, ds, _, hH, h1, fun B1 H1 v s1 hH1 r1 => ?_⟩
  obtain ⟨rfl, hx⟩ := r1.isStr
  exact ⟨rfl, Γ, B1, ds, xs, hH1, h2, fun B2 H2 vs s2 hH2 r2 => hr Γ B2 H2 σ ds x vs xs d Q hH2 hx r2 h3 fun B3 H3 w s3 hH3 r3 => k B3 H3 w ((s1.trans s2).trans s3) hH3 r3⟩
theorem d_sm0 (slot : Slot "str" name id) (hty : typeOf (.builtin id) = pure (.type "method_descriptor")) (hm : MtR X id rm) (hr : SmD X.K rm gm) (ho : PED X o fo)
    (hbase : attributeBase o name X.env (eval o X.env) = eval o X.env := by rfl) (hline : (apos.endLine == cpos.line) = true := by rfl) :
    PED X (.Call (.Attribute o name apos) [] [] cpos) (eM gm fo aNil) := by
  refine peM (pe_bm0 PySem.F.plainAttrs_str slot hty hm ho hbase hline) fun σ H Q q => ?_
  obtain ⟨Γ, B, ds, d, hH, e, k⟩ := q
  obtain ⟨x, xs, h1, h2, h3⟩ := eM_some e
  cases h2
  refine ⟨Γ, B, ds, _, hH, h1, fun B1 H1 v s1 hH1 r1 => ?_⟩
  obtain ⟨rfl, hx⟩ := r1.isStr
  exact ⟨rfl, hr Γ B1 H1 σ ds x [] [] d Q hH1 hx .nil h3 fun B3 H3 w s3 hH3 r3 => k B3 H3 w (s1.trans s3) hH3 r3⟩
end
@[simp] def dStarts (x : Str) : List D → Option D
  | [.str y] => some (.bool (Txt.startswith x y))
  | _ => none
@[simp] def dEnds (x : Str) : List D → Option D
  | [.str y] => some (.bool (Txt.endswith x y))
  | _ => none
theorem dStarts_ok {K : PySem.W.Frag} : SmD K (fun x xs H Q => ∃ a b, x = V.str a ∧ xs = [V.str b] ∧ Q (.bl (Txt.startswith a b)) H) dStarts := by
  intro Γ B H σ ds x vs xs d Q hH hx r h k
  unfold dStarts at h
  split at h
  · cases h
    obtain ⟨v, rfl, q⟩ := r.one
    obtain ⟨rfl, _⟩ := q.isStr
    exact ⟨_, _, rfl, rfl, k B H _ (Same.refl B) hH (.bl _)⟩
  · cases h
theorem dEnds_ok {K : PySem.W.Frag} : SmD K (fun x xs H Q => ∃ a b, x = V.str a ∧ xs = [V.str b] ∧ Q (.bl (Txt.endswith a b)) H) dEnds := by
  intro Γ B H σ ds x vs xs d Q hH hx r h k
  unfold dEnds at h
  split at h
  · cases h
    obtain ⟨v, rfl, q⟩ := r.one
    obtain ⟨rfl, _⟩ := q.isStr
    exact ⟨_, _, rfl, rfl, k B H _ (Same.refl B) hH (.bl _)⟩
  · cases h
/-- sep.join(list of texts) -/
def joinFits (x : Str) (ys : List Str) : Bool := decide ((ys.map (·.length)).sum + ys.length * x.length ≤ 16777216)
def dJoin (x : Str) : List D → Option D
  | [.list l] => (strsOf l).bind fun ys => if joinFits x ys = true then some (.str (Txt.join x ys)) else none
  | [.tuple l] => (strsOf l).bind fun ys => if joinFits x ys = true then some (.str (Txt.join x ys)) else none
  | _ => none
def rJoin (K : PySem.W.Frag) : V → List V → Hp → VK → Prop := fun x xs H Q => ∃ a p, ∃ ys : List Str, x = .str a ∧ xs = [.ref p] ∧ (SqL K H p (ys.map V.str) ∨ SqT K H p (ys.map V.str)) ∧ (ys.map (·.length)).sum + ys.length * a.length ≤ 16777216 ∧ Q (.str (Txt.join a ys)) H
theorem all_app {x y : Str} (h1 : PyData.strOk x = true) (h2 : PyData.strOk y = true) : PyData.strOk (x ++ y) = true := by
  show (x.cps ++ y.cps).all _ = true
  rw [Array.all_append, Bool.and_eq_true]
  exact ⟨h1, h2⟩
theorem join_strOk {x : Str} (hx : PyData.strOk x = true) : ∀ {ys : List Str}, ys.all sOk = true → PyData.strOk (Str.join x ys) = true
  | [], _ => by
    unfold Str.join
    decide +kernel
  | [y], h => by
    rw [List.all_cons, Bool.and_eq_true] at h
    exact sOk_ok h.1
  | y :: z :: r, h => by
    rw [List.all_cons, Bool.and_eq_true] at h
    exact all_app (all_app (sOk_ok h.1) hx) (join_strOk hx (ys := z :: r) h.2)
theorem dJoin_ok {K : PySem.W.Frag} : SmD K (rJoin K) dJoin := by
  intro Γ B H σ ds x vs xs d Q hH hx r h k
  have fin : ∀ {ys : List Str}, joinFits x ys = true → ys.all sOk = true → sOk (Txt.join x ys) = true := fun {ys} h1 h2 => by
    rw [TL.join_eq]
    refine sOk_mk ?_ (join_strOk (sOk_ok hx) h2)
    have := StrLaws.join_length_le x ys
    have h1 := of_decide_eq_true h1
    rw [sizeLine_eq]
    omega
  unfold dJoin at h
  split at h
  · obtain ⟨ys, h1, h2⟩ := Option.bind_eq_some_iff.mp h
    cases strsOf_some h1
    split at h2
    · rename_i c
      cases h2
      obtain ⟨v, rfl, q⟩ := r.one
      obtain ⟨p, ws, rfl, q, t⟩ := q.unlst
      have ok := t.strsOk
      cases t.strs
      exact ⟨x, p, ys, rfl, rfl, .inl ((hH.bh.seq q)), of_decide_eq_true c, k B H _ (Same.refl B) hH (.str _ (fin c ok))⟩
    · cases h2
  · obtain ⟨ys, h1, h2⟩ := Option.bind_eq_some_iff.mp h
    cases strsOf_some h1
    split at h2
    · rename_i c
      cases h2
      obtain ⟨v, rfl, q⟩ := r.one
      obtain ⟨p, ws, rfl, q, t⟩ := q.untup
      have ok := t.strsOk
      cases t.strs
      exact ⟨x, p, ys, rfl, rfl, .inr (sameT hH.bh q), of_decide_eq_true c, k B H _ (Same.refl B) hH (.str _ (fin c ok))⟩
    · cases h2
  · cases h
/-- x.partition(sep): the parts checked -/
def part3 (p : Str × Str × Str) : Option D := if sOk p.1 && sOk p.2.1 && sOk p.2.2 then some (.tuple [.str p.1, .str p.2.1, .str p.2.2]) else none
def dPart (x : Str) : List D → Option D
  | [.str y] => if (y.length == 0) = false then part3 (Txt.partition x y) else none
  | _ => none
def rPart : V → List V → Hp → VK → Prop := fun x xs H Q => ∃ a b, x = .str a ∧ xs = [.str b] ∧ (b.length == 0) = false ∧ a.length ≤ sizeLine ∧ ∀ p, H p = none → Q (.ref p) (upd H p (.tup [.str (Txt.partition a b).1, .str (Txt.partition a b).2.1, .str (Txt.partition a b).2.2]))
theorem dPart_ok {K : PySem.W.Frag} : SmD K rPart dPart := by
  intro Γ B H σ ds x vs xs d Q hH hx r h k
  unfold dPart at h
  split at h
  · split at h
    · rename_i c
      unfold part3 at h
      split at h
      · rename_i ok
        cases h
        simp only [Bool.and_eq_true] at ok
        obtain ⟨⟨o1, o2⟩, o3⟩ := ok
        obtain ⟨v, rfl, q⟩ := r.one
        obtain ⟨rfl, _⟩ := q.isStr
        exact ⟨_, _, rfl, rfl, c, sOk_len hx, Wn.tup hH (.cons (.str _ o1) (.cons (.str _ o2) (.cons (.str _ o3) .nil))) k⟩
      · cases h
    · cases h
  · cases h
/-- x.split(sep): the parts checked -/
def mkStrs (l : List Str) : Option D := if l.all sOk then some (.list (l.map .str)) else none
def dSplit (x : Str) : List D → Option D
  | [.str y] => if (y.length == 0) = false ∧ x.length + 2 ≤ sizeLine then mkStrs (Txt.split x y) else none
  | _ => none
theorem dSplit_ok {K : PySem.W.Frag} : SmF K (fun x xs H Q => ∃ a b, x = V.str a ∧ xs = [V.str b] ∧ (b.length == 0) = false ∧ a.length + 2 ≤ sizeLine ∧ rNewStrs (Txt.split a b) H Q) dSplit := by
  intro Γ B H σ ds x vs xs d Q hH hx r h k
  unfold dSplit at h
  split at h
  · split at h
    · rename_i c
      unfold mkStrs at h
      split at h
      · rename_i ok
        cases h
        obtain ⟨v, rfl, q⟩ := r.one
        obtain ⟨rfl, _⟩ := q.isStr
        exact ⟨_, _, rfl, rfl, c.1, c.2, Wn.lstF hH (RpAll.of_strs _ ok) k⟩
      · cases h
    · cases h
  · cases h
end
end DL

set_option Elab.async false
set_option linter.all false
set_option autoImplicit false
set_option maxRecDepth 100000
set_option maxHeartbeats 4000000
namespace DL
open PySem PySem.Spec PyProof.Rows L2

/-! ### own locals read in passing: frozen for one expression whose value is no object -/
@[simp] def frzL : Option L → Option L
  | some (.own d _) => some (.val d)
  | x => x
@[simp] def frzAll (ds : DSt) : DSt := ds.map frzL
theorem frzAll_at {ds : DSt} {i : Nat} {x : L} (h : (frzAll ds)[i]? = some (some x)) : ∃ d, x = .val d ∧ (ds[i]? = some (some (.val d)) ∨ ∃ l, ds[i]? = some (some (.own d l))) := by
  unfold frzAll at h
  rw [List.getElem?_map] at h
  obtain ⟨y, e, h⟩ := Option.map_eq_some_iff.mp h
  cases y with
  | none => cases h
  | some y =>
    cases y with
    | val d => cases h; exact ⟨d, rfl, .inl e⟩
    | own d l => cases h; exact ⟨d, rfl, .inr ⟨l, e⟩⟩
section
variable {K : PySem.W.Frag} {Γ : Ent} {B H : Hp} {σ : L2.St} {ds : DSt}
open Classical in
/-- all own objects are frozen, everything is guarded -/
theorem Hold.frozen (h : Hold K Γ B H σ ds) : ∃ B1, Same B B1 ∧ Same B1 H ∧ Hold K ⟨B1, H, []⟩ B1 H σ (frzAll ds) := by
  let B1 : Hp := fun b => match B b with
    | some o => some o
    | none => if ∃ (i : Nat) (d : D) (l : Bool), ds[i]? = some (some (.own d l)) ∧ σ[i]? = some (some (.ref b)) then H b else none
  have sb : Same B B1 := fun b o e => by show (match B b with | some o => some o | none => _) = _; rw [e]
  have bh : Same B1 H := fun b o e => by
    have e : (match B b with | some o => some o | none => if ∃ (i : Nat) (d : D) (l : Bool), ds[i]? = some (some (.own d l)) ∧ σ[i]? = some (some (.ref b)) then H b else none) = some o := e
    cases q : B b with
    | some u => rw [q] at e; cases e; exact h.bh _ _ q
    | none =>
      rw [q] at e
      simp only at e
      split at e
      · exact e
      · cases e
  refine ⟨B1, sb, bh, ⟨by unfold frzAll; rw [List.length_map]; exact h.len, bh, Same.refl _, fun b o q _ => q, fun b o q => .inl q, fun i d q => ?_, fun i d l q => ?_, fun i j d e l m a q1 _ _ _ => ?_, fun p hp => (by cases hp), fun p hp => (by cases hp)⟩⟩
  · obtain ⟨d', e, q⟩ := frzAll_at q
    cases e
    rcases q with q | ⟨l, q⟩
    · obtain ⟨v, e, r⟩ := h.val i d q
      exact ⟨v, e, r.mono sb⟩
    · obtain ⟨a, e1, e2, e3, _⟩ := h.own i d l q
      refine ⟨.ref a, e1, ?_⟩
      have ba : B1 a = H a := by
        show (match B a with | some o => some o | none => _) = _
        rw [e2]
        exact if_pos ⟨i, d, l, q, e1⟩
      cases d with
      | list xs =>
        obtain ⟨vs, h1, h2⟩ := e3
        exact .lst (.inl (.inl (ba.trans h1))) (h2.mono sb)
      | dict ps =>
        obtain ⟨vs, h1, h2⟩ := e3
        exact .dic (ba.trans h1) (h2.mono sb)
      | _ => exact (show False from e3).elim
  · obtain ⟨d', e, _⟩ := frzAll_at q
    cases e
  · obtain ⟨d', e, _⟩ := frzAll_at q1
    cases e
theorem Hold.thawed (h : Hold K Γ B H σ ds) {B1 B2 H2 : Hp} {σ' : L2.St} {ds' : DSt} (s1 : Same B B1) (h1 : Same B1 H) (s2 : Same B1 B2) (h2 : Hold K ⟨B1, H, []⟩ B2 H2 σ' ds') : ∃ B3, Same B B3 ∧ Hold K Γ B3 H2 σ ds := by
  let B3 : Hp := fun b => match B b with
    | some o => some o
    | none => match H b with
      | some _ => none
      | none => B2 b
  have s3 : Same B B3 := fun b o e => by show (match B b with | some o => some o | none => _) = _; rw [e]
  have hh : Same H H2 := fun b o e => h2.keep b o e (fun i hi => by cases hi)
  refine ⟨B3, s3, h.call s3 (fun b o e => ?_) hh (fun b o e => ?_)⟩
  · have e : (match B b with | some o => some o | none => match H b with | some _ => none | none => B2 b) = some o := e
    cases q : B b with
    | some u => rw [q] at e; cases e; exact hh _ _ (h.bh _ _ q)
    | none =>
      rw [q] at e
      simp only at e
      cases q2 : H b with
      | some u => rw [q2] at e; cases e
      | none => rw [q2] at e; exact h2.bh _ _ e
  · have e : (match B b with | some o => some o | none => match H b with | some _ => none | none => B2 b) = some o := e
    cases q : B b with
    | some u => rw [q] at e; cases e; exact .inl rfl
    | none =>
      rw [q] at e
      simp only at e
      cases q2 : H b with
      | some u => rw [q2] at e; cases e
      | none => exact .inr ⟨rfl, rfl⟩
end
@[simp] def scalD : D → Option D
  | .none => some .none
  | .bool b => some (.bool b)
  | .int i => some (.int i)
  | .str x => some (.str x)
  | _ => none
theorem scalD_some {x d : D} (h : scalD x = some d) : x = d := by
  cases x <;> first | (cases h; rfl) | cases h
theorem Rp.scal {K : PySem.W.Frag} {B B' : Hp} {v : V} {x d : D} (h : scalD x = some d) (r : Rp K B v d) : Rp K B' v d := by
  cases r with
  | non => exact .non
  | bl b => exact .bl b
  | int i => exact .int i
  | str y hy => exact .str y hy
  | lst _ _ => cases x <;> cases h
  | tup _ _ => cases x <;> cases h
  | dic _ _ => cases x <;> cases h
@[simp] def bE (f : DSt → Option D) : DSt → Option D := fun s => (f (frzAll s)).bind scalD
@[simp] def bT (f : DSt → Option Bool) : DSt → Option Bool := fun s => f (frzAll s)
section
variable {X : Cx} {e a : Expr} {f fa : DSt → Option D} {t : DSt → Option Bool} {pos : Pos}
theorem d_borrow (h : PED X e f) : PED X e (bE f) := by
  refine peM h fun σ H Q q => ?_
  obtain ⟨Γ, B, ds, d, hH, e1, k⟩ := q
  obtain ⟨x, h1, h2⟩ := Option.bind_eq_some_iff.mp e1
  have hx := scalD_some h2
  subst hx
  obtain ⟨B1, s1, bh, hF⟩ := hH.frozen
  refine ⟨_, B1, frzAll ds, _, hF, h1, fun B2 H2 v s2 hH2 r2 => ?_⟩
  obtain ⟨B3, s3, hH3⟩ := hH.thawed s1 bh s2 hH2
  exact k B3 H2 v s3 hH3 (r2.scal h2)
theorem t_borrow (h : PTD X e t) : PTD X e (bT t) := by
  refine ptM h fun σ H Q q => ?_
  obtain ⟨Γ, B, ds, d, hH, e1, k⟩ := q
  obtain ⟨B1, s1, bh, hF⟩ := hH.frozen
  refine ⟨_, B1, frzAll ds, d, hF, e1, fun B2 H2 s2 hH2 => ?_⟩
  obtain ⟨B3, s3, hH3⟩ := hH.thawed s1 bh s2 hH2
  exact k B3 H2 s3 hH3

/-! ### x[::-1] -/
def revS (x : Str) : Str := ⟨x.cps.toList.reverse.toArray⟩
theorem rev_idx (n : Nat) : Builtin.Str.strSliceIndices none none (-1) n = (List.range n).reverse := by
  have h : ¬ ((-1 : Int) > 0) := by decide
  simp only [Builtin.Str.strSliceIndices, sliceRange, h, if_false]
  have hc : (if ((n : Int) - 1) > -1 then (((n : Int) - 1) - -1 - -1 - 1) / -(-1) else (0 : Int)).toNat = n := by
    by_cases h0 : n = 0
    · subst h0; rfl
    · rw [if_pos (by omega)]
      have : (((n : Int) - 1) - -1 - -1 - 1) / -(-1) = (n : Int) := by
        have e : -(-1 : Int) = 1 := by decide
        rw [e, Int.ediv_one]
        omega
      rw [this]
      exact Int.toNat_natCast n
  rw [hc]
  refine List.ext_getElem (by simp) fun i h1 h2 => ?_
  simp at h1
  simp
  omega
theorem rev_pick (x : Str) : ((List.range x.length).reverse.filterMap (x.cps[·]?)) = x.cps.toList.reverse := by
  rw [List.filterMap_reverse]
  congr 1
  refine List.ext_getElem? fun i => ?_
  have : (List.range x.length).filterMap (x.cps[·]?) = x.cps.toList := by
    have e : ∀ (l : List Nat), (List.range l.length).filterMap (fun i => l[i]?) = l := by
      intro l
      induction l with
      | nil => rfl
      | cons a l ih =>
        rw [List.length_cons, List.range_succ_eq_map, List.filterMap_cons]
        simp only [List.getElem?_cons_zero, List.filterMap_map]
        congr 1
    have := e x.cps.toList
    simpa [Str.length] using this
  rw [this]
theorem sOk_rev {x : Str} (h : sOk x = true) : sOk (revS x) = true := by
  refine sOk_mk ?_ ?_
  · show (x.cps.toList.reverse.toArray).size ≤ _
    rw [List.size_toArray, List.length_reverse, Array.length_toList]
    exact sOk_len h
  · have h2 := sOk_ok h
    unfold PyData.strOk at h2 ⊢
    rw [Array.all_eq_true_iff_forall_mem] at h2 ⊢
    intro c hc
    refine h2 c ?_
    have : c ∈ (revS x).cps.toList := by simpa using hc
    simpa [revS] using this
/-- a text's, by hand -/
def tRevS (te : TE) : TE := fun σ H Q => te σ H fun x H1 => ∃ z, x = .str z ∧ sOk z = true ∧ Q (.str (revS z)) H1
theorem pe_revS {te : TE} {k : Nat} {p1 p2 p3 pos : Pos} (he : PE X e te) : PE X (.Subscript e (.Slice none none (some (.UnaryOp .USub (.Constant (.int 1) k p1) p2)) p3) pos) (tRevS te) := by
  refine ⟨fun pins s σ H Q I h => ?_⟩
  refine Subscript_ (thn (he.run pins s σ H _ I h) fun v s1 ⟨x, H1, I1, r1, q1⟩ => ?_)
  obtain ⟨z, ex, hx, q⟩ := q1
  subst ex
  obtain ⟨t, rfl⟩ := r1
  have hst : PO X (some (.UnaryOp .USub (.Constant (.int 1) k p1) p2)) (tPart (tUn (rU fun i => .int (-i)) (tC (.int 1)))) := po_some (pe_un un_neg pe_int)
  refine wpAny_Slice (thn (po_none.run pins s1 σ H1 (fun o H2 => o = none ∧ H2 = H1) I1 ⟨rfl, rfl⟩) fun vl s2 ⟨l, H2, I2, pl, el, e2⟩ => ?_)
  subst el e2
  refine thn (po_none.run pins s2 σ H2 (fun o H3 => o = none ∧ H3 = H2) I2 ⟨rfl, rfl⟩) fun vu s3 ⟨u, H3, I3, pu, eu, e3⟩ => ?_
  subst eu e3
  refine thn (hst.run pins s3 σ H3 (fun o H4 => o = some (-1) ∧ H4 = H3) I3 ⟨1, rfl, -1, rfl, rfl, rfl⟩) fun vs s4 ⟨o, H4, I4, ps, eo, e4⟩ => ?_
  subst eo e4
  have I5 : Inv X pins σ H4 { s4 with heap := s4.heap.push { cls := .type "slice", data := .fields #[vl, vu, vs] } } := I4.kept (t' := s4.toks) fun b ob q => Heap.get?_push_of_some _ q
  show wpAny (model X.prog X.w) X.A (subscriptTail e (.Slice none none (some (.UnaryOp .USub (.Constant (.int 1) k p1) p2)) p3) (.str z t) (.ref s4.heap.objs.size)) (EP X pins σ Q) X.xe { s4 with heap := s4.heap.push { cls := .type "slice", data := .fields #[vl, vu, vs] } }
  obtain ⟨l', rfl, el⟩ := IsPart.raw pl
  obtain ⟨u', rfl, eu⟩ := IsPart.raw pu
  obtain ⟨w', rfl, ew⟩ := IsPart.raw ps
  have el' : l' = none := by cases l' <;> first | rfl | cases el
  have eu' : u' = none := by cases u' <;> first | rfl | cases eu
  subst el' eu'
  refine tail_any (ops := [.str z t, .ref s4.heap.objs.size]) (typeIs_str _ z t) (PySem.F.slot_str_getitem.lookup) ?_ (by with_unfolding_all rfl)
  refine wpAny_getItem_str_slice (l := none) (u := none) (st := w') ⟨_, Heap.get?_push_size _ rfl, rfl, rfl⟩ (by rw [ew]; rfl) ?_
  unfold sliceMade slicePicked
  rw [ew]
  have ei : Builtin.Str.strSliceIndices (Option.map (·.1) (none : Option (Int × Tok))) (Option.map (·.1) (none : Option (Int × Tok))) ((some (-1 : Int)).getD 1) z.length = (List.range z.length).reverse := rev_idx z.length
  rw [ei]
  have hn : ((some (-1 : Int)).getD 1 == 1 && ((List.range z.length).reverse.length == z.length)) = false := by
    have : ((some (-1 : Int)).getD 1 == 1) = false := by decide
    rw [this, Bool.false_and]
  rw [if_neg (by rw [hn]; decide), rev_pick]
  exact ⟨by show (revS z).length ≤ _; exact sOk_len (sOk_rev hx), .str (revS z), H4, I5.tok _, ⟨_, rfl⟩, q⟩
@[simp] def dRev : D → Option D
  | .list xs => some (.list xs.reverse)
  | .str x => some (.str (revS x))
  | _ => none
theorem d_rev {k : Nat} {p1 p2 p3 pos : Pos} (ha : PED X a fa) : PED X (.Subscript a (.Slice none none (some (.UnaryOp .USub (.Constant (.int 1) k p1) p2)) p3) pos) (e1 dRev fa) := by
  refine ⟨fun pins s σ H Q I h => ?_⟩
  obtain ⟨Γ, B, ds, d, hH, e, k⟩ := h
  obtain ⟨x, h1, h2⟩ := e1_some e
  unfold dRev at h2
  split at h2
  · cases h2
    refine (pe_revL ha).run pins s σ H Q I ⟨Γ, B, ds, _, hH, h1, fun B1 H1 v s1 hH1 r1 => ?_⟩
    obtain ⟨p, xs, rfl, q, t⟩ := r1.unlst
    exact ⟨p, xs, rfl, hH1.bh.seq q, Wn.lst hH1 t.reverse fun B' H' w s' hH' r' => k B' H' w (s1.trans s') hH' r'⟩
  · cases h2
    refine (pe_revS ha).run pins s σ H Q I ⟨Γ, B, ds, _, hH, h1, fun B1 H1 v s1 hH1 r1 => ?_⟩
    obtain ⟨rfl, hx⟩ := r1.isStr
    exact ⟨_, rfl, hx, k B1 H1 _ s1 hH1 (.str _ (sOk_rev hx))⟩
  · cases h2
end
end DL

set_option Elab.async false
set_option linter.all false
set_option autoImplicit false
set_option maxRecDepth 100000
set_option maxHeartbeats 4000000
namespace DL
open PySem PySem.Spec PyProof.Rows L2

/-! ### constants of the module; a def with no calls left -/
def GcD (M : MD) (x : Str) (d : D) : Prop := ∃ (u : Value) (v : V), M.mg x = some u ∧ RelV v u ∧ ∀ B, Rp M.K B v d
theorem GcD.str {M : MD} {x : Str} {s : Str} {t : Tok} (h : M.mg x = some (.str s t)) (ok : sOk s = true) : GcD M x (.str s) := ⟨_, .str s, h, ⟨t, rfl⟩, fun _ => .str s ok⟩
theorem GcD.int {M : MD} {x : Str} {s : Int} {t : Tok} (h : M.mg x = some (.int s t)) : GcD M x (.int s) := ⟨_, .int s, h, ⟨t, rfl⟩, fun _ => .int s⟩
section
variable {M : MD} {j : Nat} {c : NmC} {sc : Scope} {X : Cx} {pos : Pos} {a b e : Expr} {fa fb : DSt → Option D} {es : List Expr} {fs : DSt → Option (List D)}
theorem Ctx.gd (h : Ctx M j c sc X) (i : Nat) {x : Str} {p : Pos} {d : D} (hm : GcD M x d) (hi : c.gl[i]? = some x := by rfl) : PED X (.Name x p) (cE d) := by
  obtain ⟨u, v, h1, h2, h3⟩ := hm
  exact h.gc i h1 h2 h3 hi
theorem def_none {x qual : Str} {st : Stmt} {f : Addr} {fd : FuncData} {ps : List Str} {k : Nat} (Fn : Fun M.K x qual st f fd) (hx : M.mg x = some (.ref f)) (bn : Binds M.K fd ps []) : DefD M k x (fun _ => none) := by
  have no : ∀ vs H Q E, ¬ spD M.K (fun _ => none) vs H Q E := fun vs H Q E ⟨_, _, _, _, _, e, _⟩ => by cases e
  exact ⟨f, fd, ps, ⟨fun vs H Q E h => absurd h (no vs H Q E), fun A outer s H args us vs Q E _ _ _ _ h => absurd h (no vs H Q E)⟩, hx, Fn.kp, bn⟩
theorem def_noneF {x qual : Str} {st : Stmt} {f : Addr} {fd : FuncData} {ps : List Str} {k : Nat} (Fn : Fun M.K x qual st f fd) (hx : M.mg x = some (.ref f)) (bn : Binds M.K fd ps []) : DefF M k x (fun _ => none) := by
  have no : ∀ vs H Q E, ¬ spF M.K (fun _ => none) vs H Q E := fun vs H Q E ⟨_, _, _, _, _, e, _⟩ => by cases e
  exact ⟨f, fd, ps, ⟨fun vs H Q E h => absurd h (no vs H Q E), fun A outer s H args us vs Q E _ _ _ _ h => absurd h (no vs H Q E)⟩, hx, Fn.kp, bn⟩
/-! is True, is False, of bools -/
@[simp] def dIsB (b : Bool) : D → Option D
  | .bool a => some (.bool (decide (a = b)))
  | _ => none
@[simp] def dNotB (b : Bool) : D → Option D
  | .bool a => some (.bool (!decide (a = b)))
  | _ => none
theorem isB_go {bv : Bool} {σ : L2.St} {H : Hp} {Q : VK} (q : tE X.K (e1 (dIsB bv) fa) σ H Q) : tOp rIsB (tE X.K fa) (tC (.bl bv)) σ H Q := by
  obtain ⟨Γ, B, ds, d, hH, e, k⟩ := q
  obtain ⟨x, h1, h2⟩ := e1_some e
  refine ⟨Γ, B, ds, x, hH, h1, fun B1 H1 v s1 hH1 r1 => ?_⟩
  unfold dIsB at h2
  split at h2
  · cases h2; cases r1
    exact ⟨_, _, rfl, rfl, k B1 H1 _ s1 hH1 (.bl _)⟩
  · cases h2
theorem notB_go {bv : Bool} {σ : L2.St} {H : Hp} {Q : VK} (q : tE X.K (e1 (dNotB bv) fa) σ H Q) : tOp rNotB (tE X.K fa) (tC (.bl bv)) σ H Q := by
  obtain ⟨Γ, B, ds, d, hH, e, k⟩ := q
  obtain ⟨x, h1, h2⟩ := e1_some e
  refine ⟨Γ, B, ds, x, hH, h1, fun B1 H1 v s1 hH1 r1 => ?_⟩
  unfold dNotB at h2
  split at h2
  · cases h2; cases r1
    exact ⟨_, _, rfl, rfl, k B1 H1 _ s1 hH1 (.bl _)⟩
  · cases h2
theorem d_isB {bv : Bool} {jj : Nat} {p2 : Pos} (ha : PED X a fa) : PED X (.Compare a [.Is] [.Constant (.bool bv) jj p2] pos) (e1 (dIsB bv) fa) := peM (pe_cmpR op_isBl ha pe_bl (nomark _)) fun σ H Q q => isB_go q
theorem d_notB {bv : Bool} {jj : Nat} {p2 : Pos} (ha : PED X a fa) : PED X (.Compare a [.IsNot] [.Constant (.bool bv) jj p2] pos) (e1 (dNotB bv) fa) := peM (pe_cmpR op_notBl ha pe_bl (nomark _)) fun σ H Q q => notB_go q
theorem tb_go {f : DSt → Option D} {t : TE} {σ : L2.St} {H : Hp} {Q : Bool → Hp → Prop} (i : ∀ σ H Q, tE X.K f σ H Q → t σ H Q) (q : tT X.K (tb f) σ H Q) : t σ H fun x H' => ∃ k, x = .bl k ∧ Q k H' := by
  obtain ⟨Γ, B, ds, d, hH, e, k⟩ := q
  obtain ⟨z, h0, h4⟩ := Option.bind_eq_some_iff.mp e
  refine i _ _ _ ⟨Γ, B, ds, z, hH, h0, fun B3 H3 w s3 hH3 r3 => ?_⟩
  cases r3 with
  | bl bv => cases h4; exact ⟨d, rfl, k B3 H3 s3 hH3⟩
  | _ => cases h4
theorem t_isB {bv : Bool} {jj : Nat} {p2 : Pos} (ha : PED X a fa) : PTD X (.Compare a [.Is] [.Constant (.bool bv) jj p2] pos) (tb (e1 (dIsB bv) fa)) := ptM (pt_cmpR op_isBl ha pe_bl (nomark _)) fun σ H Q q => tb_go (fun _ _ _ q => isB_go q) q
theorem t_notB {bv : Bool} {jj : Nat} {p2 : Pos} (ha : PED X a fa) : PTD X (.Compare a [.IsNot] [.Constant (.bool bv) jj p2] pos) (tb (e1 (dNotB bv) fa)) := ptM (pt_cmpR op_notBl ha pe_bl (nomark _)) fun σ H Q q => tb_go (fun _ _ _ q => notB_go q) q
@[simp] def sAsg (fa : DSt → Option D) (g : D → DSt → Option DSt) : DSt → Option Fl := fun s => (fa s).bind fun d => (g d s).map .nx
end
end DL

set_option Elab.async false
set_option linter.all false
set_option autoImplicit false
set_option maxRecDepth 100000
set_option maxHeartbeats 4000000
/-! the helpers that many laws bear alike, as functions on plain data (printed by gen.py) -/
namespace LW
open PySem PySem.Spec PyProof.Rows L2 DL
def F__law_cell : DSt → Option Fl :=
  (sSeq (sIf (tb (e2 dLtD (vE 1) (eCall dLen (aCons (vE 0) aNil))))
  (sRet (eCall dInt (aCons (e2 dIx (vE 0) (vE 1)) aNil)))
  sNil)
  (sRet (cE (.int 0))))
def den__law_cell : List D → Option D := runD 2 2 F__law_cell
def B__law_numbers_1 : DSt → Option Fl :=
  (sSeq (sSet 5 (e2 dMod (eCall dInt (aCons (e2 dAdd (e2 dAdd (e2 dMul (vE 0) (cE (.int 48271))) (e2 dMul (vE 4) (cE (.int 69621)))) (cE (.int 7))) aNil)) (cE (.int 2147483647))))
  (sSeq (sSet 5 (e2 dMod (eCall dInt (aCons (e2 dAdd (e2 dAdd (e2 dAdd (e2 dMul (vE 5) (vE 5)) (e2 dMul (vE 5) (cE (.int 40692)))) (e2 dMul (vE 4) (cE (.int 16807)))) (cE (.int 11))) aNil)) (cE (.int 2147483399))))
  (sApp 3 (e2 dMod (eCall dInt (aCons (e2 dFdiv (vE 5) (cE (.int 32))) aNil)) (vE 2)))))
def B__law_numbers_2 : DSt → Option Fl :=
  (sSeq (sApp 3 (e2 dMod (eCall dInt (aCons (vE 0) aNil)) (vE 2)))
  (sSet 0 (e2 dFdiv (eCall dInt (aCons (vE 0) aNil)) (vE 2))))
def F__law_numbers : DSt → Option Fl :=
  (sSeq (sOwn 3 (eLst aNil))
  (sSeq (sIf (tb (e2 dGeD (vE 0) (e2 dPow (cE (.int 10)) (cE (.int 18)))))
  (sSeq (sFor (eRng1 (vE 1)) (gVal 4)
  B__law_numbers_2)
  (sFrz 3 (sRet (vE 3))))
  sNil)
  (sSeq (sFor (eRng1 (vE 1)) (gVal 4)
  B__law_numbers_1)
  (sFrz 3 (sRet (vE 3))))))
def den__law_numbers : List D → Option D := runD 6 3 F__law_numbers
def B__law_same_1 (r : List D → Option D) : DSt → Option Fl :=
  (sIf (bNot (tr (eCall r (aCons (e2 dIx (vE 0) (vE 2)) (aCons (e2 dIx (vE 1) (vE 2)) aNil)))))
  (sRet (cE (.bool false)))
  sNil)
def F__law_same (r : List D → Option D) : DSt → Option Fl :=
  (sSeq (sIf (tr (e1 (dIsT "list") (vE 1)))
  (sIf (bOr (bNot (tr (e1 (dIsT "list") (vE 0)))) (tb (e2 dNeD (eCall dLen (aCons (vE 0) aNil)) (eCall dLen (aCons (vE 1) aNil)))))
  (sRet (cE (.bool false)))
  sNil)
  (sIf (tr (e1 (dIsT "tuple") (vE 1)))
  (sIf (bOr (bNot (tr (e1 (dIsT "tuple") (vE 0)))) (tb (e2 dNeD (eCall dLen (aCons (vE 0) aNil)) (eCall dLen (aCons (vE 1) aNil)))))
  (sRet (cE (.bool false)))
  sNil)
  (sIf (tb (e2 dIsN (vE 1) (cE .none)))
  (sRet (e2 dIsN (vE 0) (cE .none)))
  (sIf (tr (e1 (dIsT "bool") (vE 1)))
  (sRet (eAnd (e1 (dIsT "bool") (vE 0)) (e2 dEqD (vE 0) (vE 1))))
  (sIf (tr (e1 (dIsT "int") (vE 1)))
  (sRet (eAnd (e1 (dIsT "int") (vE 0)) (eAnd (e1 dNot (e1 (dIsT "bool") (vE 0))) (e2 dEqD (vE 0) (vE 1)))))
  (sRet (eAnd (e1 (dIsT "str") (vE 0)) (e2 dEqD (vE 0) (vE 1)))))))))
  (sSeq (sFor (eRng1 (eCall dLen (aCons (vE 1) aNil))) (gVal 2)
  (B__law_same_1 r))
  (sRet (cE (.bool true)))))
def den__law_same : Nat → List D → Option D
  | 0 => fun _ => none
  | n + 1 => runD 3 2 (F__law_same (den__law_same n))
end LW

set_option Elab.async false
set_option linter.all false
set_option autoImplicit false
set_option maxRecDepth 100000
set_option maxHeartbeats 4000000
/-! PL: plain lemmas about the combinators. -/
namespace DL
open PySem PySem.Spec PyProof.Rows L2

/-! ### loops by an invariant -/
theorem loop_inv {g : D → DSt → Option DSt} {F : DSt → Option Fl} {items : List D} (P : Nat → DSt → Prop)
    (step : ∀ (i : Nat) x s, items[i]? = some x → P i s → ∃ s1, g x s = some s1 ∧ ∃ s2, (F s1 = some (.nx s2) ∨ F s1 = some (.ct s2)) ∧ P (i + 1) s2) :
    ∀ s, P 0 s → ∃ s', loopD g F items s = some (.nx s') ∧ P items.length s' := by
  have key : ∀ (l pre : List D) s, pre ++ l = items → P pre.length s → ∃ s', loopD g F l s = some (.nx s') ∧ P items.length s' := by
    intro l
    induction l with
    | nil =>
      intro pre s e p
      rw [List.append_nil] at e
      subst e
      exact ⟨s, rfl, p⟩
    | cons x l ih =>
      intro pre s e p
      have hx : items[pre.length]? = some x := by rw [← e]; simp
      obtain ⟨s1, h1, s2, h2, p2⟩ := step pre.length x s hx p
      obtain ⟨s', h3, p3⟩ := ih (pre ++ [x]) s2 (by rw [← e]; simp) (by simpa using p2)
      refine ⟨s', ?_, p3⟩
      unfold loopD
      rw [h1]
      show (F s1).bind _ = _
      rcases h2 with h2 | h2 <;> (rw [h2]; exact h3)
  exact fun s p => key items [] s rfl p
/-- .. a loop that hands nothing on but keeps P -/
theorem loop_keep {g : D → DSt → Option DSt} {F : DSt → Option Fl} {items : List D} (P : DSt → Prop)
    (step : ∀ x s, x ∈ items → P s → ∃ s1, g x s = some s1 ∧ ∃ s2, (F s1 = some (.nx s2) ∨ F s1 = some (.ct s2)) ∧ P s2) (s : DSt) (h : P s) : ∃ s', loopD g F items s = some (.nx s') ∧ P s' :=
  loop_inv (fun _ => P) (fun i x s hx p => step x s (List.mem_of_getElem? hx) p) s h
/-- .. one that may end by a return: Rt of the item -/
theorem loop_find {g : D → DSt → Option DSt} {F : DSt → Option Fl} {items : List D} (P : Nat → DSt → Prop) (r : D → DSt → DSt → Prop) (i₀ : Nat) (x₀ : D) (h0 : items[i₀]? = some x₀) (fl : Fl)
    (step : ∀ (i : Nat) x s, i < i₀ → items[i]? = some x → P i s → ∃ s1, g x s = some s1 ∧ ∃ s2, (F s1 = some (.nx s2) ∨ F s1 = some (.ct s2)) ∧ P (i + 1) s2)
    (last : ∀ s, P i₀ s → ∃ s1, g x₀ s = some s1 ∧ F s1 = some fl ∧ (∃ d s, fl = .ret d s)) :
    ∀ s, P 0 s → loopD g F items s = some fl := by
  have key : ∀ (l pre : List D) s, pre ++ l = items → pre.length ≤ i₀ → P pre.length s → loopD g F l s = some fl := by
    intro l
    induction l with
    | nil =>
      intro pre s e hp p
      rw [List.append_nil] at e
      subst e
      have := (List.getElem?_eq_some_iff.mp h0).1
      omega
    | cons x l ih =>
      intro pre s e hp p
      have hx : items[pre.length]? = some x := by rw [← e]; simp
      unfold loopD
      by_cases h : pre.length = i₀
      · rw [h] at hx p
        rw [h0] at hx
        cases hx
        obtain ⟨s1, h1, h2, d, s', rfl⟩ := last s p
        rw [h1]
        show (F s1).bind _ = _
        rw [h2]
        rfl
      · obtain ⟨s1, h1, s2, h2, p2⟩ := step pre.length x s (by omega) hx p
        have h3 := ih (pre ++ [x]) s2 (by rw [← e]; simp) (by simp; omega) (by simpa using p2)
        rw [h1]
        show (F s1).bind _ = _
        rcases h2 with h2 | h2 <;> (rw [h2]; exact h3)
  exact fun s p => key items [] s rfl (Nat.zero_le _) p
/-- a while by a measure -/
theorem while_inv {c : DSt → Option Bool} {F : DSt → Option Fl} (P : DSt → Prop) (μ : DSt → Nat) (R : DSt → Prop)
    (step : ∀ s, P s → (c s = some false ∧ R s) ∨ (c s = some true ∧ ∃ s2, (F s = some (.nx s2) ∨ F s = some (.ct s2)) ∧ P s2 ∧ μ s2 < μ s)) :
    ∀ (n : Nat) s, P s → μ s < n → ∃ s', whileD c F n s = some (.nx s') ∧ R s'
  | 0, _, _, h => absurd h (Nat.not_lt_zero _)
  | n + 1, s, p, h => by
    unfold whileD
    rcases step s p with ⟨h1, r⟩ | ⟨h1, s2, h2, p2, h3⟩
    · exact ⟨s, by rw [h1]; rfl, r⟩
    · obtain ⟨s', h4, r⟩ := while_inv P μ R step n s2 p2 (by omega)
      refine ⟨s', ?_, r⟩
      rw [h1]
      rcases h2 with h2 | h2 <;> simp [h2, h4]
/-- a comprehension's items -/
theorem lcD_map {g : D → DSt → Option DSt} {t : DSt → Option Bool} {f : DSt → Option D} {s : DSt} (p : D → Bool) (y : D → D) : ∀ {items : List D},
    (∀ x ∈ items, ∃ s1, g x s = some s1 ∧ t s1 = some (p x) ∧ (p x = true → f s1 = some (y x))) → lcD g t f s items = some ((items.filter p).map y)
  | [], _ => rfl
  | x :: r, h => by
    obtain ⟨s1, h1, h2, h3⟩ := h x List.mem_cons_self
    have ih := lcD_map p y (items := r) fun z hz => h z (List.mem_cons_of_mem _ hz)
    unfold lcD
    rw [h1]
    show (t s1).bind _ = _
    rw [h2]
    show (if p x = true then _ else _) = _
    by_cases hp : p x = true
    · rw [if_pos hp, h3 hp, ih, List.filter_cons_of_pos hp]
      rfl
    · rw [if_neg hp, ih, List.filter_cons_of_neg hp]
theorem lcD_all {g : D → DSt → Option DSt} {f : DSt → Option D} {s : DSt} (y : D → D) {items : List D} (h : ∀ x ∈ items, ∃ s1, g x s = some s1 ∧ f s1 = some (y x)) : lcD g bYes f s items = some (items.map y) := by
  have := lcD_map (g := g) (t := bYes) (f := f) (s := s) (fun _ => true) y (items := items) fun x hx => by
    obtain ⟨s1, h1, h2⟩ := h x hx
    exact ⟨s1, h1, rfl, fun _ => h2⟩
  rw [this, List.filter_eq_self.mpr fun _ _ => rfl]
end DL
namespace LW
open PySem PySem.Spec PyProof.Rows L2 DL
theorem cell_ok (ns : List Int) (k : Nat) : den__law_cell [.list (ns.map .int), .int (k : Int)] = some (.int (ns.getD k 0)) := by
  by_cases h : k < ns.length <;> simp [den__law_cell, runD, F__law_cell, atI, ixN, h]
/-! numbers: a list of that many in the range -/
structure Nums (l : List Int) (count : Nat) (limit : Int) : Prop where
  len : l.length = count
  lo : ∀ x ∈ l, 0 ≤ x
  hi : ∀ x ∈ l, x < limit
theorem Nums.snoc {l : List Int} {n : Nat} {limit x : Int} (h : Nums l n limit) (h0 : 0 ≤ x) (h1 : x < limit) : Nums (l ++ [x]) (n + 1) limit := by
  refine ⟨by simp [h.len], fun y hy => ?_, fun y hy => ?_⟩ <;> rcases List.mem_append.mp hy with z | z
  · exact h.lo y z
  · rw [List.mem_singleton.mp z]; exact h0
  · exact h.hi y z
  · rw [List.mem_singleton.mp z]; exact h1
theorem Nums.nil {limit : Int} : Nums [] 0 limit := ⟨rfl, by simp, by simp⟩
theorem size24 : (sizeLine : Nat) = 16777216 := sizeLine_eq
theorem log2_small {n k : Nat} (h : n < 2 ^ k) (hk : 0 < k) : n.log2 ≤ k := by
  by_cases h0 : n = 0
  · subst h0; simp
  · exact Nat.le_of_lt ((Nat.log2_lt h0).mpr h)
theorem mulFits_of {i j : Int} {a b : Nat} (ha : i.natAbs.log2 ≤ a) (hb : j.natAbs.log2 ≤ b) (h : a + b + 2 ≤ 134217728) : mulFits i j = true := decide_eq_true (by omega)
/-- the state of the two loops: the cell, the count, the limit, the list so far, the counter, mixed -/
def NS (count limit : Int) (i : Nat) (s : DSt) : Prop := ∃ (c' : Int) (l : List Int) (k m : Option D), Nums l i limit ∧ s = [some (.val (.int c')), some (.val (.int count)), some (.val (.int limit)), some (.own (.list (l.map .int)) false), k.map .val, m.map .val]
theorem mixed_fits {a : Int} {n : Nat} (h0 : 0 ≤ a) (h1 : a < 2147483648) {c : Int} (hc : c.natAbs < 2 ^ 40) : mulFits a c = true :=
  mulFits_of (a := 31) (b := 40) (log2_small (by omega) (by decide)) (log2_small hc (by decide)) (by decide)
theorem numbers_ok (cell : Int) (count : Nat) (limit : Int) (hc : count ≤ 10000) (h0 : 0 < limit) (h1 : limit < 1073741824) (hb : cell.natAbs.log2 ≤ 100000000) :
    ∃ l : List Int, Nums l count limit ∧ den__law_numbers [.int cell, .int (count : Int), .int limit] = some (.list (l.map .int)) := by
  have hl0 : limit ≠ 0 := by omega
  have hr : rng0 (count : Int) = some ((List.range count).map natD) := rng0_nat (by omega)
  by_cases hcell : (1000000000000000000 : Int) ≤ cell
  · obtain ⟨s', h2, c', l, k, m, hl, rfl⟩ := loop_inv (g := gVal 4) (F := B__law_numbers_2) (items := (List.range count).map natD) (NS count limit)
      (fun i x s hx hs => by
        obtain ⟨c', l, k, m, hl, rfl⟩ := hs
        have hi : i < count := by
          have := (List.getElem?_eq_some_iff.mp hx).1
          simpa using this
        have hs' : l.length < sizeLine := by rw [hl.len, size24]; omega
        refine ⟨[some (.val (.int c')), some (.val (.int count)), some (.val (.int limit)), some (.own (.list (l.map .int)) false), some (.val x), m.map .val], by cases k <;> simp, [some (.val (.int (c' / limit))), some (.val (.int count)), some (.val (.int limit)), some (.own (.list ((l ++ [c' % limit]).map .int)) false), some (.val x), m.map .val], .inl ?_, c' / limit, l ++ [c' % limit], some x, m, hl.snoc (Int.emod_nonneg _ (by omega)) (Int.emod_lt_of_pos _ h0), rfl⟩
        simp [B__law_numbers_2, hl0, h0, h1, hs'])
      [some (.val (.int cell)), some (.val (.int count)), some (.val (.int limit)), some (.own (.list ([].map .int)) false), none, none] ⟨cell, [], none, none, .nil, rfl⟩
    refine ⟨l, by simpa using hl, ?_⟩
    simp only [List.map_nil] at h2
    simp [den__law_numbers, runD, F__law_numbers, hcell, hr, h2]
  · obtain ⟨s', h2, l, k, m, hl, rfl⟩ := loop_inv (g := gVal 4) (F := B__law_numbers_1) (items := (List.range count).map natD) (fun i s => ∃ (l : List Int) (k m : Option D), Nums l i limit ∧ s = [some (.val (.int cell)), some (.val (.int count)), some (.val (.int limit)), some (.own (.list (l.map .int)) false), k.map .val, m.map .val])
      (fun i x s hx hs => by
        obtain ⟨l, k, m, hl, rfl⟩ := hs
        have hi : i < count := by
          have := (List.getElem?_eq_some_iff.mp hx).1
          simpa using this
        have hx' : x = .int (i : Int) := by
          have := hx
          simp [hi] at this
          exact this.symm
        subst hx'
        have hs' : l.length < sizeLine := by rw [hl.len, size24]; omega
        have m1 : mulFits cell 48271 = true := mulFits_of hb (b := 16) (log2_small (by decide) (by decide)) (by decide)
        have m2 : ∀ c : Int, c.natAbs < 2 ^ 20 → mulFits (i : Int) c = true := fun c hc => mulFits_of (a := 14) (b := 20) (log2_small (by omega) (by decide)) (log2_small hc (by decide)) (by decide)
        have m3 : ∀ a c : Int, mulFits (a % 2147483647) c = true ∨ True := fun _ _ => .inr trivial
        have f1 : ∀ a : Int, (a % 2147483647).natAbs < 2 ^ 31 := fun a => by omega
        have m4 : ∀ a b : Int, mulFits (a % 2147483647) (b % 2147483647) = true := fun a b => mulFits_of (a := 31) (b := 31) (log2_small (f1 a) (by decide)) (log2_small (f1 b) (by decide)) (by decide)
        have m5 : ∀ a : Int, mulFits (a % 2147483647) 40692 = true := fun a => mulFits_of (a := 31) (b := 16) (log2_small (f1 a) (by decide)) (log2_small (by decide) (by decide)) (by decide)
        refine ⟨[some (.val (.int cell)), some (.val (.int count)), some (.val (.int limit)), some (.own (.list (l.map .int)) false), some (.val (.int i)), m.map .val], by cases k <;> simp, ?_⟩
        let mx : Int := (cell * 48271 + i * 69621 + 7) % 2147483647
        let my : Int := (mx * mx + mx * 40692 + i * 16807 + 11) % 2147483399
        refine ⟨[some (.val (.int cell)), some (.val (.int count)), some (.val (.int limit)), some (.own (.list ((l ++ [my / 32 % limit]).map .int)) false), some (.val (.int i)), some (.val (.int my))], .inl ?_, l ++ [my / 32 % limit], some (.int i), some (.int my), hl.snoc (Int.emod_nonneg _ (by omega)) (Int.emod_lt_of_pos _ h0), rfl⟩
        have m6 := m2 69621 (by decide)
        have m7 := m2 16807 (by decide)
        cases m <;> simp [B__law_numbers_1, hl0, h0, h1, hs', m1, m6, m7, m4, m5, mx, my])
      [some (.val (.int cell)), some (.val (.int count)), some (.val (.int limit)), some (.own (.list ([].map .int)) false), none, none] ⟨[], none, none, .nil, rfl⟩
    refine ⟨l, by simpa using hl, ?_⟩
    simp only [List.map_nil] at h2
    have hcell' : ¬ (1000000000000000000 : Int) ≤ cell := hcell
    simp [den__law_numbers, runD, F__law_numbers, hcell, hr, h2]
/-- law_same of a thing and itself -/
def plainD : Nat → D → Bool
  | 0, _ => false
  | n + 1, .list l => Nat.ble l.length 1000000 && l.all (plainD n)
  | n + 1, .tuple l => Nat.ble l.length 1000000 && l.all (plainD n)
  | _ + 1, .dict _ => false
  | _ + 1, _ => true
theorem same_loop (r : List D → Option D) (l : List D) (w : List D → D) (hw : ∀ (i : Nat) x, l[i]? = some x → dIx (w l) (.int (i : Int)) = some x) (h : ∀ x ∈ l, r [x, x] = some (.bool true)) :
    ∃ k, loopD (gVal 2) (B__law_same_1 r) ((List.range l.length).map natD) [some (.val (w l)), some (.val (w l)), none] = some (.nx [some (.val (w l)), some (.val (w l)), k]) := by
  obtain ⟨s', h2, k, rfl⟩ := loop_inv (g := gVal 2) (F := B__law_same_1 r) (items := (List.range l.length).map natD) (fun i s => ∃ k : Option D, s = [some (.val (w l)), some (.val (w l)), k.map .val])
    (fun i x s hx hs => by
      obtain ⟨k, rfl⟩ := hs
      have hi : i < l.length := by
        have := (List.getElem?_eq_some_iff.mp hx).1
        simpa using this
      have hx' : x = .int (i : Int) := by
        have := hx
        simp [hi] at this
        exact this.symm
      subst hx'
      have hy : dIx (w l) (.int (i : Int)) = some l[i] := hw i _ (List.getElem?_eq_getElem hi)
      have hr := h l[i] (List.getElem_mem hi)
      refine ⟨[some (.val (w l)), some (.val (w l)), some (.val (.int i))], by cases k <;> simp, [some (.val (w l)), some (.val (w l)), some (.val (.int i))], .inl ?_, some (.int i), rfl⟩
      simp [-dIx, B__law_same_1, hy, hr])
    [some (.val (w l)), some (.val (w l)), none] ⟨none, rfl⟩
  exact ⟨_, h2⟩
theorem same_refl : ∀ (n : Nat) (d : D), plainD n d = true → den__law_same n [d, d] = some (.bool true)
  | 0, _, h => nomatch h
  | n + 1, .none, _ => by simp [den__law_same, runD, F__law_same]
  | n + 1, .bool b, _ => by simp [den__law_same, runD, F__law_same, PyData.depth, PyData.eqv]
  | n + 1, .int b, _ => by simp [den__law_same, runD, F__law_same, PyData.depth, PyData.eqv]
  | n + 1, .str b, _ => by simp [den__law_same, runD, F__law_same, PyData.depth, PyData.eqv]
  | n + 1, .dict b, h => nomatch h
  | n + 1, .list l, h => by
    obtain ⟨h1, h2⟩ := Bool.and_eq_true_iff.mp h
    have h1 := Nat.le_of_ble_eq_true h1
    have hr : rng0 (l.length : Int) = some ((List.range l.length).map natD) := rng0_nat (by omega)
    obtain ⟨k, hk⟩ := same_loop (den__law_same n) l (.list ·) (fun i x hx => by obtain ⟨h3, h4⟩ := List.getElem?_eq_some_iff.mp hx; simp [atI, ixN, h3, h4]) fun x hx => same_refl n x (List.all_eq_true.mp h2 x hx)
    simp [den__law_same, runD, F__law_same, hr, hk, PyData.depth, PyData.eqv]
  | n + 1, .tuple l, h => by
    obtain ⟨h1, h2⟩ := Bool.and_eq_true_iff.mp h
    have h1 := Nat.le_of_ble_eq_true h1
    have hr : rng0 (l.length : Int) = some ((List.range l.length).map natD) := rng0_nat (by omega)
    obtain ⟨k, hk⟩ := same_loop (den__law_same n) l (.tuple ·) (fun i x hx => by obtain ⟨h3, h4⟩ := List.getElem?_eq_some_iff.mp hx; simp [atI, ixN, h3, h4]) fun x hx => same_refl n x (List.all_eq_true.mp h2 x hx)
    simp [den__law_same, runD, F__law_same, hr, hk, PyData.depth, PyData.eqv]
theorem cell_bits {ns : List Int} (h : ∀ z ∈ ns, Builtin.Int.intBits z ≤ 1048576) (k : Nat) : (ns.getD k 0).natAbs.log2 ≤ 100000000 := by
  rw [List.getD_eq_getElem?_getD]
  cases e : ns[k]? with
  | none => simp
  | some z =>
    have := h z (List.mem_of_getElem? e)
    unfold Builtin.Int.intBits at this
    simp only [Option.getD_some]
    split at this
    · rename_i q
      simp at q
      rw [q]
      simp
    · omega
end LW

set_option Elab.async false
set_option linter.all false
set_option autoImplicit false
set_option maxRecDepth 100000
set_option maxHeartbeats 4000000
/-! PT: texts as lists of signs; states by their slots. -/
namespace DL
open PySem PySem.Spec PyProof.Rows L2

def T (l : List Nat) : Str := ⟨l.toArray⟩
theorem T_cps (l : List Nat) : (T l).cps.toList = l := rfl
theorem T_of (z : Str) : T z.cps.toList = z := by cases z; simp [T]
@[simp] theorem T_len (l : List Nat) : (T l).length = l.length := by simp [T, Str.length]
@[simp] theorem T_app (a b : List Nat) : T a ++ T b = T (a ++ b) := by
  show Str.append (T a) (T b) = _
  simp [T, Str.append]
@[simp] theorem T_inj (a b : List Nat) : T a = T b ↔ a = b := ⟨fun h => by have := congrArg (fun z : Str => z.cps.toList) h; simpa [T] using this, fun h => by rw [h]⟩
@[simp] theorem T_cut (l : List Nat) (lo hi : Option Int) : cutS (T l) lo hi = T (cutD l lo hi) := by
  unfold cutS cutD
  rw [T_len]
  rfl
@[simp] theorem T_rev (l : List Nat) : revS (T l) = T l.reverse := rfl
@[simp] theorem T_starts (a b : List Nat) : Txt.startswith (T a) (T b) = b.isPrefixOf a := by
  unfold Txt.startswith
  rw [PySem.StrLaws.subAt_eq, T_len, T_len, T_cps, T_cps]
  rw [Bool.eq_iff_iff]
  simp only [List.drop_zero, Bool.and_eq_true, decide_eq_true_eq, beq_iff_eq, List.isPrefixOf_iff_prefix, List.prefix_iff_eq_take]
  constructor
  · exact fun h => h.2.symm
  · intro h
    have := congrArg List.length h
    simp at this
    exact ⟨by omega, h.symm⟩
@[simp] theorem T_ends (a b : List Nat) : Txt.endswith (T a) (T b) = b.isSuffixOf a := by
  unfold Txt.endswith
  rw [PySem.StrLaws.subAt_eq, T_len, T_len, T_cps, T_cps]
  rw [Bool.eq_iff_iff]
  simp only [Bool.and_eq_true, decide_eq_true_eq, beq_iff_eq, List.isSuffixOf_iff_suffix, List.suffix_iff_eq_drop]
  constructor
  · intro h
    have e := h.2
    rw [List.take_of_length_le (by simp; omega)] at e
    exact e.symm
  · intro h
    have := congrArg List.length h
    simp at this
    refine ⟨by omega, ?_⟩
    rw [← h, List.take_of_length_le (Nat.le_refl _)]
/-! slices from the left and from the right -/
theorem cutD_upto {α : Type} (l : List α) (k : Nat) : cutD l none (some (k : Int)) = l.take k := by
  unfold cutD
  rw [HT.sIx_none, HT.sIx_nat]
  simp [List.take_eq_take_iff]
theorem cutD_upto0 {α : Type} (l : List α) (k : Nat) : cutD l (some 0) (some (k : Int)) = l.take k := by
  unfold cutD
  rw [show (0 : Int) = ((0 : Nat) : Int) from rfl, HT.sIx_nat, HT.sIx_nat]
  simp [List.take_eq_take_iff]
theorem cutD_from {α : Type} (l : List α) (k : Nat) : cutD l (some (k : Int)) none = l.drop k := by
  unfold cutD
  rw [HT.sIx_none, HT.sIx_nat]
  by_cases h : k ≤ l.length
  · rw [Nat.min_eq_left h, List.take_of_length_le (by simp)]
  · rw [Nat.min_eq_right (by omega), List.drop_eq_nil_of_le (Nat.le_refl _), List.drop_eq_nil_of_le (by omega)]
    simp
theorem cutD_mid {α : Type} (l : List α) (i k : Nat) : cutD l (some (i : Int)) (some (k : Int)) = (l.drop i).take (k - i) := by
  unfold cutD
  rw [HT.sIx_nat, HT.sIx_nat]
  by_cases h : i ≤ l.length
  · rw [Nat.min_eq_left h]
    by_cases h2 : k ≤ l.length
    · rw [Nat.min_eq_left h2]
    · rw [Nat.min_eq_right (by omega), List.take_of_length_le (by simp), List.take_of_length_le (by simp; omega)]
  · rw [Nat.min_eq_right (a := i) (by omega), List.drop_eq_nil_of_le (Nat.le_refl _), List.drop_eq_nil_of_le (by omega)]
    simp
theorem atI_ofNat {α : Type} (l : List α) (k : Nat) : atI l (k : Int) = l[k]? := by
  by_cases h : k < l.length
  · simp [atI, ixN, h]
  · simp [atI, ixN, h]
theorem atI_lit {α : Type} (l : List α) (k : Nat) : atI l (OfNat.ofNat k : Int) = l[k]? := atI_ofNat l k
theorem atI_zero {α : Type} (l : List α) : atI l 0 = l[0]? := atI_ofNat l 0
theorem atI_one {α : Type} (l : List α) : atI l 1 = l[1]? := atI_ofNat l 1

@[simp] theorem lit_le2 : 2 ≤ sizeLine := by rw [LW.size24]; decide
@[simp] theorem lit_le3 : 3 ≤ sizeLine := by rw [LW.size24]; decide
@[simp] theorem lit_le4 : 4 ≤ sizeLine := by rw [LW.size24]; decide
@[simp] theorem lit_le5 : 5 ≤ sizeLine := by rw [LW.size24]; decide
@[simp] theorem lit_le6 : 6 ≤ sizeLine := by rw [LW.size24]; decide
@[simp] theorem lit_le7 : 7 ≤ sizeLine := by rw [LW.size24]; decide
@[simp] theorem lit_le8 : 8 ≤ sizeLine := by rw [LW.size24]; decide
@[simp] theorem lit_le9 : 9 ≤ sizeLine := by rw [LW.size24]; decide
@[simp] theorem lit_le10 : 10 ≤ sizeLine := by rw [LW.size24]; decide
@[simp] theorem lit_le11 : 11 ≤ sizeLine := by rw [LW.size24]; decide
@[simp] theorem lit_le12 : 12 ≤ sizeLine := by rw [LW.size24]; decide
@[simp] theorem lit_le13 : 13 ≤ sizeLine := by rw [LW.size24]; decide
@[simp] theorem lit_le14 : 14 ≤ sizeLine := by rw [LW.size24]; decide
@[simp] theorem lit_le15 : 15 ≤ sizeLine := by rw [LW.size24]; decide
@[simp] theorem lit_le16 : 16 ≤ sizeLine := by rw [LW.size24]; decide
@[simp] theorem lit_le17 : 17 ≤ sizeLine := by rw [LW.size24]; decide
@[simp] theorem lit_le18 : 18 ≤ sizeLine := by rw [LW.size24]; decide
@[simp] theorem lit_le19 : 19 ≤ sizeLine := by rw [LW.size24]; decide
@[simp] theorem lit_le20 : 20 ≤ sizeLine := by rw [LW.size24]; decide
@[simp] theorem lit_le21 : 21 ≤ sizeLine := by rw [LW.size24]; decide
@[simp] theorem lit_le22 : 22 ≤ sizeLine := by rw [LW.size24]; decide
@[simp] theorem lit_le23 : 23 ≤ sizeLine := by rw [LW.size24]; decide
@[simp] theorem lit_le24 : 24 ≤ sizeLine := by rw [LW.size24]; decide
@[simp] theorem lit_le25 : 25 ≤ sizeLine := by rw [LW.size24]; decide
@[simp] theorem lit_le26 : 26 ≤ sizeLine := by rw [LW.size24]; decide
@[simp] theorem lit_le27 : 27 ≤ sizeLine := by rw [LW.size24]; decide
@[simp] theorem lit_le28 : 28 ≤ sizeLine := by rw [LW.size24]; decide
@[simp] theorem lit_le29 : 29 ≤ sizeLine := by rw [LW.size24]; decide
@[simp] theorem lit_le30 : 30 ≤ sizeLine := by rw [LW.size24]; decide
@[simp] theorem lit_le31 : 31 ≤ sizeLine := by rw [LW.size24]; decide
@[simp] theorem lit_le32 : 32 ≤ sizeLine := by rw [LW.size24]; decide
@[simp] theorem lit_le36 : 36 ≤ sizeLine := by rw [LW.size24]; decide
@[simp] theorem lit_le40 : 40 ≤ sizeLine := by rw [LW.size24]; decide
@[simp] theorem lit_le48 : 48 ≤ sizeLine := by rw [LW.size24]; decide
@[simp] theorem lit_le64 : 64 ≤ sizeLine := by rw [LW.size24]; decide
@[simp] theorem lit_le96 : 96 ≤ sizeLine := by rw [LW.size24]; decide
@[simp] theorem lit_le128 : 128 ≤ sizeLine := by rw [LW.size24]; decide
@[simp] theorem lit_lt1 : 1 < sizeLine := by rw [LW.size24]; decide
@[simp] theorem lit_lt2 : 2 < sizeLine := by rw [LW.size24]; decide
@[simp] theorem lit_lt3 : 3 < sizeLine := by rw [LW.size24]; decide
@[simp] theorem lit_lt4 : 4 < sizeLine := by rw [LW.size24]; decide
@[simp] theorem lit_lt5 : 5 < sizeLine := by rw [LW.size24]; decide
@[simp] theorem lit_lt6 : 6 < sizeLine := by rw [LW.size24]; decide
@[simp] theorem lit_lt7 : 7 < sizeLine := by rw [LW.size24]; decide
@[simp] theorem lit_lt8 : 8 < sizeLine := by rw [LW.size24]; decide
@[simp] theorem lit_lt9 : 9 < sizeLine := by rw [LW.size24]; decide
@[simp] theorem lit_lt10 : 10 < sizeLine := by rw [LW.size24]; decide
@[simp] theorem lit_lt11 : 11 < sizeLine := by rw [LW.size24]; decide
@[simp] theorem lit_lt12 : 12 < sizeLine := by rw [LW.size24]; decide
@[simp] theorem lit_lt13 : 13 < sizeLine := by rw [LW.size24]; decide
@[simp] theorem lit_lt14 : 14 < sizeLine := by rw [LW.size24]; decide
@[simp] theorem lit_lt15 : 15 < sizeLine := by rw [LW.size24]; decide
@[simp] theorem lit_lt16 : 16 < sizeLine := by rw [LW.size24]; decide
@[simp] theorem lit_lt17 : 17 < sizeLine := by rw [LW.size24]; decide
@[simp] theorem lit_lt18 : 18 < sizeLine := by rw [LW.size24]; decide
@[simp] theorem lit_lt19 : 19 < sizeLine := by rw [LW.size24]; decide
@[simp] theorem lit_lt20 : 20 < sizeLine := by rw [LW.size24]; decide
@[simp] theorem lit_lt21 : 21 < sizeLine := by rw [LW.size24]; decide
@[simp] theorem lit_lt22 : 22 < sizeLine := by rw [LW.size24]; decide
@[simp] theorem lit_lt23 : 23 < sizeLine := by rw [LW.size24]; decide
@[simp] theorem lit_lt24 : 24 < sizeLine := by rw [LW.size24]; decide
@[simp] theorem lit_lt25 : 25 < sizeLine := by rw [LW.size24]; decide
@[simp] theorem lit_lt26 : 26 < sizeLine := by rw [LW.size24]; decide
@[simp] theorem lit_lt27 : 27 < sizeLine := by rw [LW.size24]; decide
@[simp] theorem lit_lt28 : 28 < sizeLine := by rw [LW.size24]; decide
@[simp] theorem lit_lt29 : 29 < sizeLine := by rw [LW.size24]; decide
@[simp] theorem lit_lt30 : 30 < sizeLine := by rw [LW.size24]; decide
@[simp] theorem lit_lt31 : 31 < sizeLine := by rw [LW.size24]; decide
@[simp] theorem lit_lt32 : 32 < sizeLine := by rw [LW.size24]; decide
@[simp] theorem lit_lt36 : 36 < sizeLine := by rw [LW.size24]; decide
@[simp] theorem lit_lt40 : 40 < sizeLine := by rw [LW.size24]; decide
@[simp] theorem lit_lt48 : 48 < sizeLine := by rw [LW.size24]; decide
@[simp] theorem lit_lt64 : 64 < sizeLine := by rw [LW.size24]; decide
@[simp] theorem lit_lt96 : 96 < sizeLine := by rw [LW.size24]; decide
@[simp] theorem lit_lt128 : 128 < sizeLine := by rw [LW.size24]; decide
@[simp] theorem one_le_line : 1 ≤ sizeLine := by rw [LW.size24]; decide
@[simp] theorem zero_lt_line : 0 < sizeLine := by rw [LW.size24]; decide
/-! states by their slots: none lent -/
structure Val (n : Nat) (s : DSt) : Prop where
  len : List.length s = n
  lent : ∀ i, isLent s i = false
theorem Val.g {n : Nat} {s : DSt} (h : Val n s) {i : Nat} (hi : i < n) (d : D) : gVal i d s = some (List.set s i (some (.val d))) := by
  unfold gVal
  rw [if_pos ⟨by rw [h.len]; exact hi, h.lent i⟩]
theorem Val.put {n : Nat} {s : DSt} (h : Val n s) (i : Nat) (x : Option L) (hx : ∀ d, x ≠ some (.own d true)) : Val n (List.set s i x) := by
  refine ⟨by rw [List.length_set]; exact h.len, fun j => ?_⟩
  have := h.lent j
  unfold isLent at this ⊢
  rw [List.getElem?_set]
  by_cases q : i = j
  · rw [if_pos q]
    split
    · rename_i e
      split at e
      · cases e; exact absurd rfl (hx _)
      · cases e
    · rfl
  · rw [if_neg q]; exact this
theorem Val.set {n : Nat} {s : DSt} (h : Val n s) (i : Nat) (d : D) : Val n (List.set s i (some (.val d))) := h.put i _ (by intro _ e; cases e)
theorem Val.own {n : Nat} {s : DSt} (h : Val n s) (i : Nat) (d : D) : Val n (List.set s i (some (.own d false))) := h.put i _ (by intro _ e; cases e)
theorem Val.wipe {n : Nat} {s : DSt} (h : Val n s) (i : Nat) : Val n (List.set s i none) := h.put i _ (by intro _ e; cases e)
theorem vE_set {n : Nat} {s : DSt} (h : Val n s) {i : Nat} (hi : i < n) (d : D) : vE i (List.set s i (some (.val d))) = some d := by
  unfold vE
  rw [List.getElem?_set_self (by rw [h.len]; exact hi)]
theorem vE_ne {s : DSt} {i j : Nat} (h : j ≠ i) (x : Option L) : vE i (List.set s j x) = vE i s := by
  unfold vE
  rw [List.getElem?_set_ne h]
/-! one statement after another -/
theorem sSeq_nx {F G : DSt → Option Fl} {s s1 : DSt} (h : F s = some (.nx s1)) : sSeq F G s = G s1 := by
  show (F s).bind _ = _
  rw [h]
  rfl
theorem sSeq_ret {F G : DSt → Option Fl} {s s1 : DSt} {d : D} (h : F s = some (.ret d s1)) : sSeq F G s = some (.ret d s1) := by
  show (F s).bind _ = _
  rw [h]
  rfl
theorem sIf_no {c : DSt → Option Bool} {F G : DSt → Option Fl} {s : DSt} (h : c s = some false) : sIf c F G s = G s := by
  show (c s).bind _ = _
  rw [h]
  rfl
theorem sIf_yes {c : DSt → Option Bool} {F G : DSt → Option Fl} {s : DSt} (h : c s = some true) : sIf c F G s = F s := by
  show (c s).bind _ = _
  rw [h]
  rfl
theorem sFor_go {it : DSt → Option (List D)} {g : D → DSt → Option DSt} {F : DSt → Option Fl} {s : DSt} {items : List D} (h : it s = some items) : sFor it g F s = loopD g F items s := by
  show (it s).bind _ = _
  rw [h]
  rfl
theorem runD_ret {n p : Nat} {F : DSt → Option Fl} {args : List D} {d : D} {s : DSt} (hl : args.length = p) (h : F (args.map (fun d => some (.val d)) ++ List.replicate (n - p) none) = some (.ret d s)) : runD n p F args = some d := by
  unfold runD
  rw [if_pos hl, h]
end DL

set_option Elab.async false
set_option linter.all false
set_option autoImplicit false
set_option maxRecDepth 100000
set_option maxHeartbeats 4000000
namespace K14
open PySem PySem.Spec PyProof.Rows L2 DL
def top (i : Nat) : Stmt := PySem.Challenge.pw_asifanew_k14_hints_put_together.main.body.getD i (.Pass ⟨0, 0, 0, 0⟩)
abbrev st_are_signs : Stmt := top 4
abbrev st_tells : Stmt := top 8
abbrev st_joined : Stmt := top 10
abbrev st_hint_join : Stmt := top 11
abbrev st_begin_alike : Stmt := top 12
abbrev st_end_alike : Stmt := top 13
abbrev st_end_of : Stmt := top 14
abbrev st_hint_one : Stmt := top 15
abbrev st__law_cell : Stmt := top 17
abbrev st__law_numbers : Stmt := top 18
abbrev st__law_same : Stmt := top 19
abbrev st__law_tells : Stmt := top 20
abbrev st__law_join_two : Stmt := top 21
abbrev st__law_hint_one : Stmt := top 22
abbrev st__law_hint : Stmt := top 23
abbrev st__law_texts : Stmt := top 24
abbrev st_law : Stmt := top 25
/-- what stands behind the top -/
structure Facts (M : MD) : Prop where
  d_are_signs : ∃ f fd, Fun M.K "are_signs" "are_signs" st_are_signs f fd ∧ M.mg "are_signs" = some (.ref f) ∧ Binds M.K fd ["string", "signs"] []
  d_tells : ∃ f fd, Fun M.K "tells" "tells" st_tells f fd ∧ M.mg "tells" = some (.ref f) ∧ Binds M.K fd ["frame", "text"] []
  d_joined : ∃ f fd, Fun M.K "joined" "joined" st_joined f fd ∧ M.mg "joined" = some (.ref f) ∧ Binds M.K fd ["one", "other"] []
  d_hint_join : ∃ f fd, Fun M.K "hint_join" "hint_join" st_hint_join f fd ∧ M.mg "hint_join" = some (.ref f) ∧ Binds M.K fd ["hints"] []
  d_begin_alike : ∃ f fd, Fun M.K "begin_alike" "begin_alike" st_begin_alike f fd ∧ M.mg "begin_alike" = some (.ref f) ∧ Binds M.K fd ["one", "other"] []
  d_end_alike : ∃ f fd, Fun M.K "end_alike" "end_alike" st_end_alike f fd ∧ M.mg "end_alike" = some (.ref f) ∧ Binds M.K fd ["one", "other"] []
  d_end_of : ∃ f fd, Fun M.K "end_of" "end_of" st_end_of f fd ∧ M.mg "end_of" = some (.ref f) ∧ Binds M.K fd ["hint", "k"] []
  d_hint_one : ∃ f fd, Fun M.K "hint_one" "hint_one" st_hint_one f fd ∧ M.mg "hint_one" = some (.ref f) ∧ Binds M.K fd ["one", "other"] []
  d__law_cell : ∃ f fd, Fun M.K "_law_cell" "_law_cell" st__law_cell f fd ∧ M.mg "_law_cell" = some (.ref f) ∧ Binds M.K fd ["script", "k"] []
  d__law_numbers : ∃ f fd, Fun M.K "_law_numbers" "_law_numbers" st__law_numbers f fd ∧ M.mg "_law_numbers" = some (.ref f) ∧ Binds M.K fd ["cell", "count", "limit"] []
  d__law_same : ∃ f fd, Fun M.K "_law_same" "_law_same" st__law_same f fd ∧ M.mg "_law_same" = some (.ref f) ∧ Binds M.K fd ["told", "due"] []
  d__law_tells : ∃ f fd, Fun M.K "_law_tells" "_law_tells" st__law_tells f fd ∧ M.mg "_law_tells" = some (.ref f) ∧ Binds M.K fd ["frame", "text"] []
  d__law_join_two : ∃ f fd, Fun M.K "_law_join_two" "_law_join_two" st__law_join_two f fd ∧ M.mg "_law_join_two" = some (.ref f) ∧ Binds M.K fd ["one", "other"] []
  d__law_hint_one : ∃ f fd, Fun M.K "_law_hint_one" "_law_hint_one" st__law_hint_one f fd ∧ M.mg "_law_hint_one" = some (.ref f) ∧ Binds M.K fd ["one", "other"] []
  d__law_hint : ∃ f fd, Fun M.K "_law_hint" "_law_hint" st__law_hint f fd ∧ M.mg "_law_hint" = some (.ref f) ∧ Binds M.K fd ["draws", "at"] []
  d__law_texts : ∃ f fd, Fun M.K "_law_texts" "_law_texts" st__law_texts f fd ∧ M.mg "_law_texts" = some (.ref f) ∧ Binds M.K fd ["hint"] []
  d_law : ∃ f fd, Fun M.K "law" "law" st_law f fd ∧ M.mg "law" = some (.ref f) ∧ Binds M.K fd ["script"] []
  b_all : M.mg "all" = none
  b_bool : M.mg "bool" = none
  b_int : M.mg "int" = none
  b_isinstance : M.mg "isinstance" = none
  b_len : M.mg "len" = none
  b_list : M.mg "list" = none
  b_min : M.mg "min" = none
  b_range : M.mg "range" = none
  b_str : M.mg "str" = none
  b_tuple : M.mg "tuple" = none
  c_IS : GcD M "IS" (.str (Str.ofString "is"))
  c_OPEN : GcD M "OPEN" (.str (Str.ofString "open"))
  c_SIGNS : GcD M "SIGNS" (.str (Str.ofString "abcdefghijklmnopqrstuvwxyz0123456789.-"))

/-! are_signs -/
def nm_are_signs : NmC := ⟨[Str.ofString "string", Str.ofString "signs", Str.ofString "sign"], [true, true, false], [true, true, false], [true, false, false], [Str.ofString "all"]⟩
def nm_are_signs_1 : NmC := ⟨[Str.ofString "string", Str.ofString "signs", Str.ofString "sign"], [false, true, true], [false, false, true], [false, false, false], []⟩
theorem sc_are_signs : FnScope nm_are_signs.N ["string", "signs"] (defScope st_are_signs) := ⟨rfl, rfl, rfl, by decide +kernel, rfl, by decide +kernel, by decide +kernel⟩
def F_are_signs : DSt → Option Fl :=
  (sRet (eAnd (e2 dNeD (vE 0) (cE (.str (Str.ofString "")))) (eCall dAll (aCons (eLc (eIter (vE 0)) (gVal 2) bYes (e2 dInD (vE 2) (vE 1)) [2]) aNil))))
def den_are_signs : List D → Option D := runD 3 2 F_are_signs
theorem ok_are_signs {M : MD} (Fx : Facts M) : DefD M 1 "are_signs" den_are_signs := by
  obtain ⟨f, fd, F, hm, b⟩ := Fx.d_are_signs
  exact def_ok (k := 0) F sc_are_signs rfl (by decide +kernel) (fun X h => (ss_one (s_ret (d_and (h.ne (h.v 0) (d_str)) (d_one (h.all_ 0 Fx.b_all (a_cons (d_frz (h.lc nm_are_signs_1 [(Str.ofString "sign", 2)] (i_seq (h.v 0)) rfl (by decide +kernel) (fun Y h1 => (h1.g 2 [2])) (fun Y h1 => ts_nil) (fun Y h1 => (h1.in_ (h1.v 2) (h1.v 1))))) a_nil))))))) hm b

/-! tells -/
def nm_tells : NmC := ⟨[Str.ofString "frame", Str.ofString "text", Str.ofString "_", Str.ofString "ahead", Str.ofString "behind"], [true, true, true, true, true], [true, true, true, true, true], [true, true, true, true, true], [Str.ofString "IS", Str.ofString "len", Str.ofString "OPEN", Str.ofString "are_signs", Str.ofString "SIGNS"]⟩
theorem sc_tells : FnScope nm_tells.N ["frame", "text"] (defScope st_tells) := ⟨rfl, rfl, rfl, by decide +kernel, rfl, by decide +kernel, by decide +kernel⟩
def F_tells : DSt → Option Fl :=
  (sSeq (sIf (tb (e2 dEqD (e2 dIx (vE 0) (cE (.int 0))) (cE (.str (Str.ofString "is")))))
  (sRet (e2 dEqD (vE 1) (e2 dIx (vE 0) (cE (.int 1)))))
  sNil)
  (sSeq (sAsg (vE 0) (gTupD 3 (gsCons (gVal 2) (gsCons (gVal 3) (gsCons (gVal 4) gsNil)))))
  (sSeq (sIf (bOr (tb (e2 dLtD (eCall dLen (aCons (vE 1) aNil)) (e2 dAdd (eCall dLen (aCons (vE 3) aNil)) (eCall dLen (aCons (vE 4) aNil))))) (bOr (bNot (tr (eM dStarts (vE 1) (aCons (vE 3) aNil)))) (bNot (tr (eM dEnds (vE 1) (aCons (vE 4) aNil))))))
  (sRet (cE (.bool false)))
  sNil)
  (sRet (eOr (e2 dEqD (e2 dIx (vE 0) (cE (.int 0))) (cE (.str (Str.ofString "open")))) (eCall den_are_signs (aCons (eSl (vE 1) (oYes (eCall dLen (aCons (vE 3) aNil))) (oYes (e2 dSub (eCall dLen (aCons (vE 1) aNil)) (eCall dLen (aCons (vE 4) aNil))))) (aCons (cE (.str (Str.ofString "abcdefghijklmnopqrstuvwxyz0123456789.-"))) aNil))))))))
def den_tells : List D → Option D := runD 5 2 F_tells
structure Cal_tells (M : MD) : Prop where
  are_signs : DefD M 1 "are_signs" den_are_signs
theorem ok_tells {M : MD} (Fx : Facts M) (C : Cal_tells M) : DefD M 2 "tells" den_tells := by
  obtain ⟨f, fd, F, hm, b⟩ := Fx.d_tells
  exact def_ok (k := 1) F sc_tells rfl (by decide +kernel) (fun X h => (ss_cons (s_if (h.teq (h.ix (h.v 0) d_int) (h.gd 0 Fx.c_IS))
  (ss_one (s_ret (h.eq (h.v 1) (h.ix (h.v 0) d_int))))
  ss_nil)
  (ss_cons (s_asg (h.v 0) (g_tup h.calm (gs_cons (h.g 2 [2, 3, 4]) (gs_cons (h.g 3 [2, 3, 4]) (gs_cons (h.g 4 [2, 3, 4]) gs_nil)))))
  (ss_cons (s_if (t_w (w_or (t_lt (h.len 1 Fx.b_len (a_cons (h.v 1) a_nil)) (d_add (h.len 1 Fx.b_len (a_cons (h.v 3) a_nil)) (h.len 1 Fx.b_len (a_cons (h.v 4) a_nil)))) (w_or (t_not (t_truth (d_sm PySem.F.slot_str_startswith PySem.F.type_str_startswith mt_startswith dStarts_ok (h.v 1) (a_cons (h.v 3) a_nil)))) (w_or1 (t_not (t_truth (d_sm PySem.F.slot_str_endswith PySem.F.type_str_endswith mt_endswith dEnds_ok (h.v 1) (a_cons (h.v 4) a_nil))))))))
  (ss_one (s_ret d_bl))
  ss_nil)
  (ss_one (s_ret (d_or (h.eq (h.ix (h.v 0) d_int) (h.gd 2 Fx.c_OPEN)) (d_one (h.call 3 C.are_signs (a_cons (d_slice (h.v 1) (o_some (h.len 1 Fx.b_len (a_cons (h.v 3) a_nil))) (o_some (d_sub (h.len 1 Fx.b_len (a_cons (h.v 1) a_nil)) (h.len 1 Fx.b_len (a_cons (h.v 4) a_nil))))) (a_cons (h.gd 4 Fx.c_SIGNS) a_nil))))))))))) hm b

/-! joined -/
def nm_joined : NmC := ⟨[Str.ofString "one", Str.ofString "other"], [true, true], [true, true], [true, true], [Str.ofString "IS", Str.ofString "OPEN"]⟩
theorem sc_joined : FnScope nm_joined.N ["one", "other"] (defScope st_joined) := ⟨rfl, rfl, rfl, by decide +kernel, rfl, by decide +kernel, by decide +kernel⟩
def F_joined : DSt → Option Fl :=
  (sSeq (sIf (bAnd (tb (e2 dEqD (e2 dIx (vE 0) (cE (.int 0))) (cE (.str (Str.ofString "is"))))) (tb (e2 dEqD (e2 dIx (vE 1) (cE (.int 0))) (cE (.str (Str.ofString "is"))))))
  (sRet (eTup (aCons (cE (.str (Str.ofString "is"))) (aCons (e2 dAdd (e2 dIx (vE 0) (cE (.int 1))) (e2 dIx (vE 1) (cE (.int 1)))) aNil))))
  sNil)
  (sSeq (sIf (tb (e2 dEqD (e2 dIx (vE 0) (cE (.int 0))) (cE (.str (Str.ofString "is")))))
  (sRet (eTup (aCons (cE (.str (Str.ofString "open"))) (aCons (e2 dAdd (e2 dIx (vE 0) (cE (.int 1))) (e2 dIx (vE 1) (cE (.int 1)))) (aCons (e2 dIx (vE 1) (cE (.int 2))) aNil)))))
  sNil)
  (sRet (eIf (tb (e2 dEqD (e2 dIx (vE 1) (cE (.int 0))) (cE (.str (Str.ofString "is"))))) (eTup (aCons (cE (.str (Str.ofString "open"))) (aCons (e2 dIx (vE 0) (cE (.int 1))) (aCons (e2 dAdd (e2 dIx (vE 0) (cE (.int 2))) (e2 dIx (vE 1) (cE (.int 1)))) aNil)))) (eTup (aCons (cE (.str (Str.ofString "open"))) (aCons (e2 dIx (vE 0) (cE (.int 1))) (aCons (e2 dIx (vE 1) (cE (.int 2))) aNil))))))))
def den_joined : List D → Option D := runD 2 2 F_joined
theorem ok_joined {M : MD} (Fx : Facts M) : DefD M 1 "joined" den_joined := by
  obtain ⟨f, fd, F, hm, b⟩ := Fx.d_joined
  exact def_ok (k := 0) F sc_joined rfl (by decide +kernel) (fun X h => (ss_cons (s_if (t_w (w_and (h.teq (h.ix (h.v 0) d_int) (h.gd 0 Fx.c_IS)) (w_and1 (h.teq (h.ix (h.v 1) d_int) (h.gd 0 Fx.c_IS)))))
  (ss_one (s_ret (d_tup (a_cons (h.gd 0 Fx.c_IS) (a_cons (d_add (h.ix (h.v 0) d_int) (h.ix (h.v 1) d_int)) a_nil)))))
  ss_nil)
  (ss_cons (s_if (h.teq (h.ix (h.v 0) d_int) (h.gd 0 Fx.c_IS))
  (ss_one (s_ret (d_tup (a_cons (h.gd 1 Fx.c_OPEN) (a_cons (d_add (h.ix (h.v 0) d_int) (h.ix (h.v 1) d_int)) (a_cons (h.ix (h.v 1) d_int) a_nil))))))
  ss_nil)
  (ss_one (s_ret (d_if (h.teq (h.ix (h.v 1) d_int) (h.gd 0 Fx.c_IS)) (d_tup (a_cons (h.gd 1 Fx.c_OPEN) (a_cons (h.ix (h.v 0) d_int) (a_cons (d_add (h.ix (h.v 0) d_int) (h.ix (h.v 1) d_int)) a_nil)))) (d_tup (a_cons (h.gd 1 Fx.c_OPEN) (a_cons (h.ix (h.v 0) d_int) (a_cons (h.ix (h.v 1) d_int) a_nil)))))))))) hm b

/-! hint_join -/
def nm_hint_join : NmC := ⟨[Str.ofString "hints", Str.ofString "found", Str.ofString "hint"], [true, true, true], [true, true, true], [true, true, true], [Str.ofString "joined"]⟩
theorem sc_hint_join : FnScope nm_hint_join.N ["hints"] (defScope st_hint_join) := ⟨rfl, rfl, rfl, by decide +kernel, rfl, by decide +kernel, by decide +kernel⟩
def B_hint_join_1 : DSt → Option Fl :=
  (sSet 1 (eCall den_joined (aCons (vE 1) (aCons (vE 2) aNil))))
def F_hint_join : DSt → Option Fl :=
  (sSeq (sSet 1 (e2 dIx (vE 0) (cE (.int 0))))
  (sSeq (sFor (eIter (eSl (vE 0) (oYes (cE (.int 1))) oNo)) (gVal 2)
  B_hint_join_1)
  (sRet (vE 1))))
def den_hint_join : List D → Option D := runD 3 1 F_hint_join
structure Cal_hint_join (M : MD) : Prop where
  joined : DefD M 1 "joined" den_joined
theorem ok_hint_join {M : MD} (Fx : Facts M) (C : Cal_hint_join M) : DefD M 2 "hint_join" den_hint_join := by
  obtain ⟨f, fd, F, hm, b⟩ := Fx.d_hint_join
  exact def_ok (k := 1) F sc_hint_join rfl (by decide +kernel) (fun X h => (ss_cons (h.setN 1 (h.ix (h.v 0) d_int))
  (ss_cons (h.for_ [2] (i_seq (d_slice (h.v 0) (o_some d_int) o_none)) (h.g 2 [2])
  (ss_one (h.setN 1 (h.call 0 C.joined (a_cons (h.v 1) (a_cons (h.v 2) a_nil))))))
  (ss_one (s_ret (h.v 1)))))) hm b

/-! begin_alike -/
def nm_begin_alike : NmC := ⟨[Str.ofString "one", Str.ofString "other", Str.ofString "k"], [true, true, true], [true, true, true], [true, true, true], [Str.ofString "min", Str.ofString "len"]⟩
theorem sc_begin_alike : FnScope nm_begin_alike.N ["one", "other"] (defScope st_begin_alike) := ⟨rfl, rfl, rfl, by decide +kernel, rfl, by decide +kernel, by decide +kernel⟩
def B_begin_alike_1 : DSt → Option Fl :=
  (sAug 2 dIAdd (cE (.int 1)))
def F_begin_alike : DSt → Option Fl :=
  (sSeq (sSet 2 (cE (.int 0)))
  (sSeq (whileD (bAnd (tb (e2 dLtD (vE 2) (eCall dMin2 (aCons (eCall dLen (aCons (vE 0) aNil)) (aCons (eCall dLen (aCons (vE 1) aNil)) aNil))))) (tb (e2 dEqD (e2 dIx (vE 0) (vE 2)) (e2 dIx (vE 1) (vE 2)))))
  B_begin_alike_1 1000000)
  (sRet (vE 2))))
def den_begin_alike : List D → Option D := runD 3 2 F_begin_alike
theorem ok_begin_alike {M : MD} (Fx : Facts M) : DefD M 1 "begin_alike" den_begin_alike := by
  obtain ⟨f, fd, F, hm, b⟩ := Fx.d_begin_alike
  exact def_ok (k := 0) F sc_begin_alike rfl (by decide +kernel) (fun X h => (ss_cons (h.setN 2 d_int)
  (ss_cons (h.while_ 1000000 (t_w (w_and (t_lt (h.v 2) (h.min2 0 Fx.b_min (a_cons (h.len 1 Fx.b_len (a_cons (h.v 0) a_nil)) (a_cons (h.len 1 Fx.b_len (a_cons (h.v 1) a_nil)) a_nil)))) (w_and1 (h.teq (h.ix (h.v 0) (h.v 2)) (h.ix (h.v 1) (h.v 2))))))
  (ss_one (h.augAdd 2 d_int)))
  (ss_one (s_ret (h.v 2)))))) hm b

/-! end_alike -/
def nm_end_alike : NmC := ⟨[Str.ofString "one", Str.ofString "other", Str.ofString "k"], [true, true, true], [true, true, true], [true, true, true], [Str.ofString "begin_alike", Str.ofString "len"]⟩
theorem sc_end_alike : FnScope nm_end_alike.N ["one", "other"] (defScope st_end_alike) := ⟨rfl, rfl, rfl, by decide +kernel, rfl, by decide +kernel, by decide +kernel⟩
def F_end_alike : DSt → Option Fl :=
  (sSeq (sSet 2 (eCall den_begin_alike (aCons (e1 dRev (vE 0)) (aCons (e1 dRev (vE 1)) aNil))))
  (sRet (eSl (vE 0) (oYes (e2 dSub (eCall dLen (aCons (vE 0) aNil)) (vE 2))) oNo)))
def den_end_alike : List D → Option D := runD 3 2 F_end_alike
structure Cal_end_alike (M : MD) : Prop where
  begin_alike : DefD M 1 "begin_alike" den_begin_alike
theorem ok_end_alike {M : MD} (Fx : Facts M) (C : Cal_end_alike M) : DefD M 2 "end_alike" den_end_alike := by
  obtain ⟨f, fd, F, hm, b⟩ := Fx.d_end_alike
  exact def_ok (k := 1) F sc_end_alike rfl (by decide +kernel) (fun X h => (ss_cons (h.setN 2 (h.call 0 C.begin_alike (a_cons (d_rev (h.v 0)) (a_cons (d_rev (h.v 1)) a_nil))))
  (ss_one (s_ret (d_slice (h.v 0) (o_some (d_sub (h.len 1 Fx.b_len (a_cons (h.v 0) a_nil)) (h.v 2))) o_none))))) hm b

/-! end_of -/
def nm_end_of : NmC := ⟨[Str.ofString "hint", Str.ofString "k"], [true, true], [true, true], [true, true], [Str.ofString "IS"]⟩
theorem sc_end_of : FnScope nm_end_of.N ["hint", "k"] (defScope st_end_of) := ⟨rfl, rfl, rfl, by decide +kernel, rfl, by decide +kernel, by decide +kernel⟩
def F_end_of : DSt → Option Fl :=
  (sRet (eIf (tb (e2 dEqD (e2 dIx (vE 0) (cE (.int 0))) (cE (.str (Str.ofString "is"))))) (eSl (e2 dIx (vE 0) (cE (.int 1))) (oYes (vE 1)) oNo) (e2 dIx (vE 0) (cE (.int 2)))))
def den_end_of : List D → Option D := runD 2 2 F_end_of
theorem ok_end_of {M : MD} (Fx : Facts M) : DefD M 1 "end_of" den_end_of := by
  obtain ⟨f, fd, F, hm, b⟩ := Fx.d_end_of
  exact def_ok (k := 0) F sc_end_of rfl (by decide +kernel) (fun X h => (ss_one (s_ret (d_if (h.teq (h.ix (h.v 0) d_int) (h.gd 0 Fx.c_IS)) (d_slice (h.ix (h.v 0) d_int) (o_some (h.v 1)) o_none) (h.ix (h.v 0) d_int))))) hm b

/-! hint_one -/
def nm_hint_one : NmC := ⟨[Str.ofString "one", Str.ofString "other", Str.ofString "k"], [true, true, true], [true, true, true], [true, true, true], [Str.ofString "begin_alike", Str.ofString "OPEN", Str.ofString "end_alike", Str.ofString "end_of"]⟩
theorem sc_hint_one : FnScope nm_hint_one.N ["one", "other"] (defScope st_hint_one) := ⟨rfl, rfl, rfl, by decide +kernel, rfl, by decide +kernel, by decide +kernel⟩
def F_hint_one : DSt → Option Fl :=
  (sSeq (sIf (tb (e2 dEqD (vE 0) (vE 1)))
  (sRet (vE 0))
  sNil)
  (sSeq (sSet 2 (eCall den_begin_alike (aCons (e2 dIx (vE 0) (cE (.int 1))) (aCons (e2 dIx (vE 1) (cE (.int 1))) aNil))))
  (sRet (eTup (aCons (cE (.str (Str.ofString "open"))) (aCons (eSl (e2 dIx (vE 0) (cE (.int 1))) oNo (oYes (vE 2))) (aCons (eCall den_end_alike (aCons (eCall den_end_of (aCons (vE 0) (aCons (vE 2) aNil))) (aCons (eCall den_end_of (aCons (vE 1) (aCons (vE 2) aNil))) aNil))) aNil)))))))
def den_hint_one : List D → Option D := runD 3 2 F_hint_one
structure Cal_hint_one (M : MD) : Prop where
  begin_alike : DefD M 1 "begin_alike" den_begin_alike
  end_alike : DefD M 2 "end_alike" den_end_alike
  end_of : DefD M 1 "end_of" den_end_of
theorem ok_hint_one {M : MD} (Fx : Facts M) (C : Cal_hint_one M) : DefD M 3 "hint_one" den_hint_one := by
  obtain ⟨f, fd, F, hm, b⟩ := Fx.d_hint_one
  exact def_ok (k := 2) F sc_hint_one rfl (by decide +kernel) (fun X h => (ss_cons (s_if (h.teq (h.v 0) (h.v 1))
  (ss_one (s_ret (h.v 0)))
  ss_nil)
  (ss_cons (h.setN 2 (h.call 0 C.begin_alike (a_cons (h.ix (h.v 0) d_int) (a_cons (h.ix (h.v 1) d_int) a_nil))))
  (ss_one (s_ret (d_tup (a_cons (h.gd 1 Fx.c_OPEN) (a_cons (d_slice (h.ix (h.v 0) d_int) o_none (o_some (h.v 2))) (a_cons (h.call 2 C.end_alike (a_cons (h.call 3 C.end_of (a_cons (h.v 0) (a_cons (h.v 2) a_nil))) (a_cons (h.call 3 C.end_of (a_cons (h.v 1) (a_cons (h.v 2) a_nil))) a_nil))) a_nil))))))))) hm b

/-! _law_cell -/
def nm__law_cell : NmC := ⟨[Str.ofString "script", Str.ofString "k"], [true, true], [true, true], [true, true], [Str.ofString "len", Str.ofString "int"]⟩
theorem sc__law_cell : FnScope nm__law_cell.N ["script", "k"] (defScope st__law_cell) := ⟨rfl, rfl, rfl, by decide +kernel, rfl, by decide +kernel, by decide +kernel⟩
def F__law_cell : DSt → Option Fl :=
  LW.F__law_cell
abbrev den__law_cell : List D → Option D := LW.den__law_cell
theorem ok__law_cell {M : MD} (Fx : Facts M) : DefD M 1 "_law_cell" den__law_cell := by
  obtain ⟨f, fd, F, hm, b⟩ := Fx.d__law_cell
  exact def_ok (k := 0) F sc__law_cell rfl (by decide +kernel) (fun X h => (ss_cons (s_if (t_lt (h.v 1) (h.len 0 Fx.b_len (a_cons (h.v 0) a_nil)))
  (ss_one (s_ret (h.int 1 Fx.b_int (a_cons (h.ix (h.v 0) (h.v 1)) a_nil))))
  ss_nil)
  (ss_one (s_ret d_int)))) hm b

/-! _law_numbers -/
def nm__law_numbers : NmC := ⟨[Str.ofString "cell", Str.ofString "count", Str.ofString "limit", Str.ofString "found", Str.ofString "k", Str.ofString "mixed"], [true, true, true, true, true, true], [true, true, true, true, true, true], [true, true, true, true, true, true], [Str.ofString "range", Str.ofString "int"]⟩
theorem sc__law_numbers : FnScope nm__law_numbers.N ["cell", "count", "limit"] (defScope st__law_numbers) := ⟨rfl, rfl, rfl, by decide +kernel, rfl, by decide +kernel, by decide +kernel⟩
def F__law_numbers : DSt → Option Fl :=
  LW.F__law_numbers
abbrev den__law_numbers : List D → Option D := LW.den__law_numbers
theorem ok__law_numbers {M : MD} (Fx : Facts M) : DefD M 1 "_law_numbers" den__law_numbers := by
  obtain ⟨f, fd, F, hm, b⟩ := Fx.d__law_numbers
  exact def_ok (k := 0) F sc__law_numbers rfl (by decide +kernel) (fun X h => (ss_cons (h.ownN 3 (f_lst a_nil))
  (ss_cons (s_if (t_ge (h.v 0) (d_pow d_int d_int))
  (ss_cons (h.for_ [4] (h.rng1 0 Fx.b_range (h.v 1)) (h.g 4 [4])
  (ss_cons (h.app 3 (d_mod (h.int 1 Fx.b_int (a_cons (h.v 0) a_nil)) (h.v 2)))
  (ss_one (h.setN 0 (d_fdiv (h.int 1 Fx.b_int (a_cons (h.v 0) a_nil)) (h.v 2))))))
  (ss_one (s_frz (s_ret (h.v 3)))))
  ss_nil)
  (ss_cons (h.for_ [4] (h.rng1 0 Fx.b_range (h.v 1)) (h.g 4 [4])
  (ss_cons (h.setN 5 (d_mod (h.int 1 Fx.b_int (a_cons (d_add (d_add (d_mul (h.v 0) d_int) (d_mul (h.v 4) d_int)) d_int) a_nil)) d_int))
  (ss_cons (h.setN 5 (d_mod (h.int 1 Fx.b_int (a_cons (d_add (d_add (d_add (d_mul (h.v 5) (h.v 5)) (d_mul (h.v 5) d_int)) (d_mul (h.v 4) d_int)) d_int) a_nil)) d_int))
  (ss_one (h.app 3 (d_mod (h.int 1 Fx.b_int (a_cons (d_fdiv (h.v 5) d_int) a_nil)) (h.v 2)))))))
  (ss_one (s_frz (s_ret (h.v 3)))))))) hm b

/-! _law_same -/
def nm__law_same : NmC := ⟨[Str.ofString "told", Str.ofString "due", Str.ofString "k"], [true, true, true], [true, true, true], [true, true, true], [Str.ofString "isinstance", Str.ofString "list", Str.ofString "len", Str.ofString "tuple", Str.ofString "bool", Str.ofString "int", Str.ofString "str", Str.ofString "range", Str.ofString "_law_same"]⟩
theorem sc__law_same : FnScope nm__law_same.N ["told", "due"] (defScope st__law_same) := ⟨rfl, rfl, rfl, by decide +kernel, rfl, by decide +kernel, by decide +kernel⟩
def F__law_same (r : List D → Option D) : DSt → Option Fl :=
  (LW.F__law_same r)
abbrev den__law_same : Nat → List D → Option D := LW.den__law_same
theorem ok__law_same {M : MD} (Fx : Facts M) : ∀ n, DefD M (0 + n) "_law_same" (den__law_same n)
  | 0 => by
    obtain ⟨f, fd, F, hm, b⟩ := Fx.d__law_same
    exact def_none F hm b
  | n + 1 => by
    obtain ⟨f, fd, F, hm, b⟩ := Fx.d__law_same
    have ih := ok__law_same Fx n
    exact def_ok (k := 0 + n) F sc__law_same rfl (by decide +kernel) (fun X h => (ss_cons (s_if (t_truth (h.isi 0 1 "list" Fx.b_isinstance Fx.b_list (by decide +kernel) (by decide +kernel) (h.v 1)))
  (ss_one (s_if (t_w (w_or (t_not (t_truth (h.isi 0 1 "list" Fx.b_isinstance Fx.b_list (by decide +kernel) (by decide +kernel) (h.v 0)))) (w_or1 (h.tne (h.len 2 Fx.b_len (a_cons (h.v 0) a_nil)) (h.len 2 Fx.b_len (a_cons (h.v 1) a_nil))))))
  (ss_one (s_ret d_bl))
  ss_nil))
  (ss_one (s_if (t_truth (h.isi 0 3 "tuple" Fx.b_isinstance Fx.b_tuple (by decide +kernel) (by decide +kernel) (h.v 1)))
  (ss_one (s_if (t_w (w_or (t_not (t_truth (h.isi 0 3 "tuple" Fx.b_isinstance Fx.b_tuple (by decide +kernel) (by decide +kernel) (h.v 0)))) (w_or1 (h.tne (h.len 2 Fx.b_len (a_cons (h.v 0) a_nil)) (h.len 2 Fx.b_len (a_cons (h.v 1) a_nil))))))
  (ss_one (s_ret d_bl))
  ss_nil))
  (ss_one (s_if (t_isN (h.v 1) d_non)
  (ss_one (s_ret (d_isN (h.v 0) d_non)))
  (ss_one (s_if (t_truth (h.isi 0 4 "bool" Fx.b_isinstance Fx.b_bool (by decide +kernel) (by decide +kernel) (h.v 1)))
  (ss_one (s_ret (d_and (h.isi 0 4 "bool" Fx.b_isinstance Fx.b_bool (by decide +kernel) (by decide +kernel) (h.v 0)) (d_one (h.eq (h.v 0) (h.v 1))))))
  (ss_one (s_if (t_truth (h.isi 0 5 "int" Fx.b_isinstance Fx.b_int (by decide +kernel) (by decide +kernel) (h.v 1)))
  (ss_one (s_ret (d_and (h.isi 0 5 "int" Fx.b_isinstance Fx.b_int (by decide +kernel) (by decide +kernel) (h.v 0)) (d_and (d_not (h.isi 0 4 "bool" Fx.b_isinstance Fx.b_bool (by decide +kernel) (by decide +kernel) (h.v 0))) (d_one (h.eq (h.v 0) (h.v 1)))))))
  (ss_one (s_ret (d_and (h.isi 0 6 "str" Fx.b_isinstance Fx.b_str (by decide +kernel) (by decide +kernel) (h.v 0)) (d_one (h.eq (h.v 0) (h.v 1)))))))))))))))
  (ss_cons (h.for_ [2] (h.rng1 7 Fx.b_range (h.len 2 Fx.b_len (a_cons (h.v 1) a_nil))) (h.g 2 [2])
  (ss_one (s_if (t_not (t_truth (h.call 8 ih (a_cons (h.ix (h.v 0) (h.v 2)) (a_cons (h.ix (h.v 1) (h.v 2)) a_nil)) (hj := by first | exact Nat.le_refl _ | omega))))
  (ss_one (s_ret d_bl))
  ss_nil)))
  (ss_one (s_ret d_bl))))) hm b

/-! _law_tells -/
def nm__law_tells : NmC := ⟨[Str.ofString "frame", Str.ofString "text", Str.ofString "ahead", Str.ofString "behind", Str.ofString "inner", Str.ofString "sign"], [true, true, true, true, true, false], [true, true, true, true, true, false], [true, true, true, true, true, false], [Str.ofString "len"]⟩
def nm__law_tells_1 : NmC := ⟨[Str.ofString "frame", Str.ofString "text", Str.ofString "ahead", Str.ofString "behind", Str.ofString "inner", Str.ofString "sign"], [false, false, false, false, false, true], [false, false, false, false, false, true], [false, false, false, false, false, false], []⟩
theorem sc__law_tells : FnScope nm__law_tells.N ["frame", "text"] (defScope st__law_tells) := ⟨rfl, rfl, rfl, by decide +kernel, rfl, by decide +kernel, by decide +kernel⟩
def F__law_tells : DSt → Option Fl :=
  (sSeq (sIf (tb (e2 dEqD (e2 dIx (vE 0) (cE (.int 0))) (cE (.str (Str.ofString "is")))))
  (sRet (e2 dEqD (vE 1) (e2 dIx (vE 0) (cE (.int 1)))))
  sNil)
  (sSeq (sSet 2 (e2 dIx (vE 0) (cE (.int 1))))
  (sSeq (sSet 3 (e2 dIx (vE 0) (cE (.int 2))))
  (sSeq (sIf (bOr (tb (e2 dLtD (eCall dLen (aCons (vE 1) aNil)) (e2 dAdd (eCall dLen (aCons (vE 2) aNil)) (eCall dLen (aCons (vE 3) aNil))))) (bOr (tb (e2 dNeD (eSl (vE 1) (oYes (cE (.int 0))) (oYes (eCall dLen (aCons (vE 2) aNil)))) (vE 2))) (tb (e2 dNeD (eSl (vE 1) (oYes (e2 dSub (eCall dLen (aCons (vE 1) aNil)) (eCall dLen (aCons (vE 3) aNil)))) oNo) (vE 3)))))
  (sRet (cE (.bool false)))
  sNil)
  (sSeq (sSet 4 (eSl (vE 1) (oYes (eCall dLen (aCons (vE 2) aNil))) (oYes (e2 dSub (eCall dLen (aCons (vE 1) aNil)) (eCall dLen (aCons (vE 3) aNil))))))
  (sSeq (sIf (tb (e2 dEqD (e2 dIx (vE 0) (cE (.int 0))) (cE (.str (Str.ofString "open")))))
  (sRet (cE (.bool true)))
  sNil)
  (sRet (eAnd (e2 dNeD (vE 4) (cE (.str (Str.ofString "")))) (e2 dEqD (eCall dLen (aCons (eLc (eIter (vE 4)) (gVal 5) (tb (e2 dNotInD (vE 5) (cE (.str (Str.ofString "abcdefghijklmnopqrstuvwxyz0123456789.-"))))) (vE 5) [5]) aNil)) (cE (.int 0)))))))))))
def den__law_tells : List D → Option D := runD 6 2 F__law_tells
theorem ok__law_tells {M : MD} (Fx : Facts M) : DefD M 1 "_law_tells" den__law_tells := by
  obtain ⟨f, fd, F, hm, b⟩ := Fx.d__law_tells
  exact def_ok (k := 0) F sc__law_tells rfl (by decide +kernel) (fun X h => (ss_cons (s_if (h.teq (h.ix (h.v 0) d_int) (d_str))
  (ss_one (s_ret (h.eq (h.v 1) (h.ix (h.v 0) d_int))))
  ss_nil)
  (ss_cons (h.setN 2 (h.ix (h.v 0) d_int))
  (ss_cons (h.setN 3 (h.ix (h.v 0) d_int))
  (ss_cons (s_if (t_w (w_or (t_lt (h.len 0 Fx.b_len (a_cons (h.v 1) a_nil)) (d_add (h.len 0 Fx.b_len (a_cons (h.v 2) a_nil)) (h.len 0 Fx.b_len (a_cons (h.v 3) a_nil)))) (w_or (h.tne (d_slice (h.v 1) (o_some d_int) (o_some (h.len 0 Fx.b_len (a_cons (h.v 2) a_nil)))) (h.v 2)) (w_or1 (h.tne (d_slice (h.v 1) (o_some (d_sub (h.len 0 Fx.b_len (a_cons (h.v 1) a_nil)) (h.len 0 Fx.b_len (a_cons (h.v 3) a_nil)))) o_none) (h.v 3))))))
  (ss_one (s_ret d_bl))
  ss_nil)
  (ss_cons (h.setN 4 (d_slice (h.v 1) (o_some (h.len 0 Fx.b_len (a_cons (h.v 2) a_nil))) (o_some (d_sub (h.len 0 Fx.b_len (a_cons (h.v 1) a_nil)) (h.len 0 Fx.b_len (a_cons (h.v 3) a_nil))))))
  (ss_cons (s_if (h.teq (h.ix (h.v 0) d_int) (d_str))
  (ss_one (s_ret d_bl))
  ss_nil)
  (ss_one (s_ret (d_and (h.ne (h.v 4) (d_str)) (d_one (h.eq (h.len 0 Fx.b_len (a_cons (d_frz (h.lc nm__law_tells_1 [(Str.ofString "sign", 5)] (i_seq (h.v 4)) rfl (by decide +kernel) (fun Y h1 => (h1.g 5 [5])) (fun Y h1 => (ts_one (h1.tnotIn (h1.v 5) (d_str)))) (fun Y h1 => (h1.v 5)))) a_nil)) d_int)))))))))))) hm b

/-! _law_join_two -/
def nm__law_join_two : NmC := ⟨[Str.ofString "one", Str.ofString "other", Str.ofString "ahead", Str.ofString "behind"], [true, true, true, true], [true, true, true, true], [true, true, true, true], [Str.ofString "len"]⟩
theorem sc__law_join_two : FnScope nm__law_join_two.N ["one", "other"] (defScope st__law_join_two) := ⟨rfl, rfl, rfl, by decide +kernel, rfl, by decide +kernel, by decide +kernel⟩
def F__law_join_two : DSt → Option Fl :=
  (sSeq (sIf (bAnd (tb (e2 dEqD (e2 dIx (vE 0) (cE (.int 0))) (cE (.str (Str.ofString "is"))))) (tb (e2 dEqD (e2 dIx (vE 1) (cE (.int 0))) (cE (.str (Str.ofString "is"))))))
  (sRet (eTup (aCons (cE (.str (Str.ofString "is"))) (aCons (e2 dAdd (e2 dIx (vE 0) (cE (.int 1))) (e2 dIx (vE 1) (cE (.int 1)))) aNil))))
  sNil)
  (sSeq (sSet 2 (e2 dIx (vE 0) (cE (.int 1))))
  (sSeq (sSet 3 (e2 dIx (vE 1) (e2 dSub (eCall dLen (aCons (vE 1) aNil)) (cE (.int 1)))))
  (sSeq (sIf (tb (e2 dEqD (e2 dIx (vE 0) (cE (.int 0))) (cE (.str (Str.ofString "is")))))
  (sSet 2 (e2 dAdd (e2 dIx (vE 0) (cE (.int 1))) (e2 dIx (vE 1) (cE (.int 1)))))
  sNil)
  (sSeq (sIf (tb (e2 dEqD (e2 dIx (vE 1) (cE (.int 0))) (cE (.str (Str.ofString "is")))))
  (sSet 3 (e2 dAdd (e2 dIx (vE 0) (e2 dSub (eCall dLen (aCons (vE 0) aNil)) (cE (.int 1)))) (e2 dIx (vE 1) (cE (.int 1)))))
  sNil)
  (sRet (eTup (aCons (cE (.str (Str.ofString "open"))) (aCons (vE 2) (aCons (vE 3) aNil))))))))))
def den__law_join_two : List D → Option D := runD 4 2 F__law_join_two
theorem ok__law_join_two {M : MD} (Fx : Facts M) : DefD M 1 "_law_join_two" den__law_join_two := by
  obtain ⟨f, fd, F, hm, b⟩ := Fx.d__law_join_two
  exact def_ok (k := 0) F sc__law_join_two rfl (by decide +kernel) (fun X h => (ss_cons (s_if (t_w (w_and (h.teq (h.ix (h.v 0) d_int) (d_str)) (w_and1 (h.teq (h.ix (h.v 1) d_int) (d_str)))))
  (ss_one (s_ret (d_tup (a_cons (d_str) (a_cons (d_add (h.ix (h.v 0) d_int) (h.ix (h.v 1) d_int)) a_nil)))))
  ss_nil)
  (ss_cons (h.setN 2 (h.ix (h.v 0) d_int))
  (ss_cons (h.setN 3 (h.ix (h.v 1) (d_sub (h.len 0 Fx.b_len (a_cons (h.v 1) a_nil)) d_int)))
  (ss_cons (s_if (h.teq (h.ix (h.v 0) d_int) (d_str))
  (ss_one (h.setN 2 (d_add (h.ix (h.v 0) d_int) (h.ix (h.v 1) d_int))))
  ss_nil)
  (ss_cons (s_if (h.teq (h.ix (h.v 1) d_int) (d_str))
  (ss_one (h.setN 3 (d_add (h.ix (h.v 0) (d_sub (h.len 0 Fx.b_len (a_cons (h.v 0) a_nil)) d_int)) (h.ix (h.v 1) d_int))))
  ss_nil)
  (ss_one (s_ret (d_tup (a_cons (d_str) (a_cons (h.v 2) (a_cons (h.v 3) a_nil)))))))))))) hm b

/-! _law_hint_one -/
def nm__law_hint_one : NmC := ⟨[Str.ofString "one", Str.ofString "other", Str.ofString "k", Str.ofString "ends", Str.ofString "hint", Str.ofString "j"], [true, true, true, true, true, true], [true, true, true, true, true, true], [true, true, true, true, true, true], [Str.ofString "len", Str.ofString "int"]⟩
theorem sc__law_hint_one : FnScope nm__law_hint_one.N ["one", "other"] (defScope st__law_hint_one) := ⟨rfl, rfl, rfl, by decide +kernel, rfl, by decide +kernel, by decide +kernel⟩
def B__law_hint_one_1 : DSt → Option Fl :=
  (sSet 5 (e2 dAdd (vE 5) (cE (.int 1))))
def B__law_hint_one_2 : DSt → Option Fl :=
  (sApp 3 (e2 dIx (eLst (aCons (eSl (e2 dIx (vE 4) (cE (.int 1))) (oYes (vE 2)) oNo) (aCons (e2 dIx (vE 4) (e2 dSub (eCall dLen (aCons (vE 4) aNil)) (cE (.int 1)))) aNil))) (eCall dInt (aCons (e2 dEqD (e2 dIx (vE 4) (cE (.int 0))) (cE (.str (Str.ofString "open")))) aNil))))
def B__law_hint_one_3 : DSt → Option Fl :=
  (sSet 2 (e2 dAdd (vE 2) (cE (.int 1))))
def F__law_hint_one : DSt → Option Fl :=
  (sSeq (sIf (tb (e2 dEqD (vE 0) (vE 1)))
  (sRet (vE 0))
  sNil)
  (sSeq (sSet 2 (cE (.int 0)))
  (sSeq (whileD (bAnd (tb (e2 dLtD (vE 2) (eCall dLen (aCons (e2 dIx (vE 0) (cE (.int 1))) aNil)))) (bAnd (tb (e2 dLtD (vE 2) (eCall dLen (aCons (e2 dIx (vE 1) (cE (.int 1))) aNil)))) (tb (e2 dEqD (e2 dIx (e2 dIx (vE 0) (cE (.int 1))) (vE 2)) (e2 dIx (e2 dIx (vE 1) (cE (.int 1))) (vE 2))))))
  B__law_hint_one_3 1000000)
  (sSeq (sOwn 3 (eLst aNil))
  (sSeq (sFor (eIter (eLst (aCons (vE 0) (aCons (vE 1) aNil)))) (gVal 4)
  B__law_hint_one_2)
  (sSeq (sSet 5 (cE (.int 0)))
  (sSeq (whileD (bT (bAnd (tb (e2 dLtD (vE 5) (eCall dLen (aCons (e2 dIx (vE 3) (cE (.int 0))) aNil)))) (bAnd (tb (e2 dLtD (vE 5) (eCall dLen (aCons (e2 dIx (vE 3) (cE (.int 1))) aNil)))) (tb (e2 dEqD (e2 dIx (e2 dIx (vE 3) (cE (.int 0))) (e2 dSub (e2 dSub (eCall dLen (aCons (e2 dIx (vE 3) (cE (.int 0))) aNil)) (cE (.int 1))) (vE 5))) (e2 dIx (e2 dIx (vE 3) (cE (.int 1))) (e2 dSub (e2 dSub (eCall dLen (aCons (e2 dIx (vE 3) (cE (.int 1))) aNil)) (cE (.int 1))) (vE 5))))))))
  B__law_hint_one_1 1000000)
  (sFrz 3 (sRet (eTup (aCons (cE (.str (Str.ofString "open"))) (aCons (eSl (e2 dIx (vE 0) (cE (.int 1))) (oYes (cE (.int 0))) (oYes (vE 2))) (aCons (eSl (e2 dIx (vE 3) (cE (.int 0))) (oYes (e2 dSub (bE (eCall dLen (aCons (e2 dIx (vE 3) (cE (.int 0))) aNil))) (vE 5))) oNo) aNil)))))))))))))
def den__law_hint_one : List D → Option D := runD 6 2 F__law_hint_one
theorem ok__law_hint_one {M : MD} (Fx : Facts M) : DefD M 1 "_law_hint_one" den__law_hint_one := by
  obtain ⟨f, fd, F, hm, b⟩ := Fx.d__law_hint_one
  exact def_ok (k := 0) F sc__law_hint_one rfl (by decide +kernel) (fun X h => (ss_cons (s_if (h.teq (h.v 0) (h.v 1))
  (ss_one (s_ret (h.v 0)))
  ss_nil)
  (ss_cons (h.setN 2 d_int)
  (ss_cons (h.while_ 1000000 (t_w (w_and (t_lt (h.v 2) (h.len 0 Fx.b_len (a_cons (h.ix (h.v 0) d_int) a_nil))) (w_and (t_lt (h.v 2) (h.len 0 Fx.b_len (a_cons (h.ix (h.v 1) d_int) a_nil))) (w_and1 (h.teq (h.ix (h.ix (h.v 0) d_int) (h.v 2)) (h.ix (h.ix (h.v 1) d_int) (h.v 2)))))))
  (ss_one (h.setN 2 (d_add (h.v 2) d_int))))
  (ss_cons (h.ownN 3 (f_lst a_nil))
  (ss_cons (h.for_ [4] (i_seq (d_frz (f_lst (a_cons (h.v 0) (a_cons (h.v 1) a_nil))))) (h.g 4 [4])
  (ss_one (h.app 3 (h.ix (d_frz (f_lst (a_cons (d_slice (h.ix (h.v 4) d_int) (o_some (h.v 2)) o_none) (a_cons (h.ix (h.v 4) (d_sub (h.len 0 Fx.b_len (a_cons (h.v 4) a_nil)) d_int)) a_nil)))) (h.int 1 Fx.b_int (a_cons (h.eq (h.ix (h.v 4) d_int) (d_str)) a_nil))))))
  (ss_cons (h.setN 5 d_int)
  (ss_cons (h.while_ 1000000 (t_borrow (t_w (w_and (t_lt (h.v 5) (h.len 0 Fx.b_len (a_cons (h.ix (h.v 3) d_int) a_nil))) (w_and (t_lt (h.v 5) (h.len 0 Fx.b_len (a_cons (h.ix (h.v 3) d_int) a_nil))) (w_and1 (h.teq (h.ix (h.ix (h.v 3) d_int) (d_sub (d_sub (h.len 0 Fx.b_len (a_cons (h.ix (h.v 3) d_int) a_nil)) d_int) (h.v 5))) (h.ix (h.ix (h.v 3) d_int) (d_sub (d_sub (h.len 0 Fx.b_len (a_cons (h.ix (h.v 3) d_int) a_nil)) d_int) (h.v 5)))))))))
  (ss_one (h.setN 5 (d_add (h.v 5) d_int))))
  (ss_one (s_frz (s_ret (d_tup (a_cons (d_str) (a_cons (d_slice (h.ix (h.v 0) d_int) (o_some d_int) (o_some (h.v 2))) (a_cons (d_slice (h.ix (h.v 3) d_int) (o_some (d_sub (d_borrow (h.len 0 Fx.b_len (a_cons (h.ix (h.v 3) d_int) a_nil))) (h.v 5))) o_none) a_nil))))))))))))))) hm b

/-! _law_hint -/
def nm__law_hint : NmC := ⟨[Str.ofString "draws", Str.ofString "at", Str.ofString "parts"], [true, true, true], [true, true, true], [true, true, true], []⟩
theorem sc__law_hint : FnScope nm__law_hint.N ["draws", "at"] (defScope st__law_hint) := ⟨rfl, rfl, rfl, by decide +kernel, rfl, by decide +kernel, by decide +kernel⟩
def F__law_hint : DSt → Option Fl :=
  (sSeq (sSet 2 (eLst (aCons (cE (.str (Str.ofString ""))) (aCons (cE (.str (Str.ofString "a"))) (aCons (cE (.str (Str.ofString "ab"))) (aCons (cE (.str (Str.ofString "b/"))) (aCons (cE (.str (Str.ofString "x\ny\n"))) (aCons (cE (.str (Str.ofString "/b"))) (aCons (cE (.str (Str.ofString "a/b"))) (aCons (cE (.str (Str.ofString "c"))) aNil))))))))))
  (sSeq (sIf (tb (e2 dEqD (e2 dMod (e2 dIx (vE 0) (vE 1)) (cE (.int 2))) (cE (.int 0))))
  (sRet (eTup (aCons (cE (.str (Str.ofString "is"))) (aCons (e2 dAdd (e2 dIx (vE 2) (e2 dMod (e2 dIx (vE 0) (e2 dAdd (vE 1) (cE (.int 1)))) (cE (.int 8)))) (e2 dIx (vE 2) (e2 dMod (e2 dIx (vE 0) (e2 dAdd (vE 1) (cE (.int 2)))) (cE (.int 8))))) aNil))))
  sNil)
  (sRet (eTup (aCons (cE (.str (Str.ofString "open"))) (aCons (e2 dIx (vE 2) (e2 dMod (e2 dIx (vE 0) (e2 dAdd (vE 1) (cE (.int 1)))) (cE (.int 8)))) (aCons (e2 dIx (vE 2) (e2 dMod (e2 dIx (vE 0) (e2 dAdd (vE 1) (cE (.int 2)))) (cE (.int 8)))) aNil)))))))
def den__law_hint : List D → Option D := runD 3 2 F__law_hint
theorem ok__law_hint {M : MD} (Fx : Facts M) : DefD M 1 "_law_hint" den__law_hint := by
  obtain ⟨f, fd, F, hm, b⟩ := Fx.d__law_hint
  exact def_ok (k := 0) F sc__law_hint rfl (by decide +kernel) (fun X h => (ss_cons (h.setN 2 (d_frz (f_lst (a_cons (d_str) (a_cons (d_str) (a_cons (d_str) (a_cons (d_str) (a_cons (d_str) (a_cons (d_str) (a_cons (d_str) (a_cons (d_str) a_nil)))))))))))
  (ss_cons (s_if (h.teq (d_mod (h.ix (h.v 0) (h.v 1)) d_int) d_int)
  (ss_one (s_ret (d_tup (a_cons (d_str) (a_cons (d_add (h.ix (h.v 2) (d_mod (h.ix (h.v 0) (d_add (h.v 1) d_int)) d_int)) (h.ix (h.v 2) (d_mod (h.ix (h.v 0) (d_add (h.v 1) d_int)) d_int))) a_nil)))))
  ss_nil)
  (ss_one (s_ret (d_tup (a_cons (d_str) (a_cons (h.ix (h.v 2) (d_mod (h.ix (h.v 0) (d_add (h.v 1) d_int)) d_int)) (a_cons (h.ix (h.v 2) (d_mod (h.ix (h.v 0) (d_add (h.v 1) d_int)) d_int)) a_nil))))))))) hm b

/-! _law_texts -/
def nm__law_texts : NmC := ⟨[Str.ofString "hint", Str.ofString "some"], [true, false], [true, false], [false, false], []⟩
def nm__law_texts_1 : NmC := ⟨[Str.ofString "hint", Str.ofString "some"], [true, true], [false, true], [false, false], []⟩
theorem sc__law_texts : FnScope nm__law_texts.N ["hint"] (defScope st__law_texts) := ⟨rfl, rfl, rfl, by decide +kernel, rfl, by decide +kernel, by decide +kernel⟩
def F__law_texts : DSt → Option Fl :=
  (sSeq (sIf (tb (e2 dEqD (e2 dIx (vE 0) (cE (.int 0))) (cE (.str (Str.ofString "is")))))
  (sRet (eLst (aCons (e2 dIx (vE 0) (cE (.int 1))) aNil)))
  sNil)
  (sRet (eLc (eIter (eLst (aCons (cE (.str (Str.ofString ""))) (aCons (cE (.str (Str.ofString "a"))) (aCons (cE (.str (Str.ofString "b/"))) (aCons (cE (.str (Str.ofString "xy\n"))) aNil)))))) (gVal 1) bYes (e2 dAdd (e2 dAdd (e2 dIx (vE 0) (cE (.int 1))) (vE 1)) (e2 dIx (vE 0) (cE (.int 2)))) [1])))
def den__law_texts : List D → Option D := runD 2 1 F__law_texts
theorem ok__law_texts {M : MD} (Fx : Facts M) : DefD M 1 "_law_texts" den__law_texts := by
  obtain ⟨f, fd, F, hm, b⟩ := Fx.d__law_texts
  exact def_ok (k := 0) F sc__law_texts rfl (by decide +kernel) (fun X h => (ss_cons (s_if (h.teq (h.ix (h.v 0) d_int) (d_str))
  (ss_one (s_ret (d_frz (f_lst (a_cons (h.ix (h.v 0) d_int) a_nil)))))
  ss_nil)
  (ss_one (s_ret (d_frz (h.lc nm__law_texts_1 [(Str.ofString "some", 1)] (i_seq (d_frz (f_lst (a_cons (d_str) (a_cons (d_str) (a_cons (d_str) (a_cons (d_str) a_nil))))))) rfl (by decide +kernel) (fun Y h1 => (h1.g 1 [1])) (fun Y h1 => ts_nil) (fun Y h1 => (d_add (d_add (h1.ix (h1.v 0) d_int) (h1.v 1)) (h1.ix (h1.v 0) d_int))))))))) hm b

/-! law -/
def nm_law : NmC := ⟨[Str.ofString "script", Str.ofString "draws", Str.ofString "turn", Str.ofString "hints", Str.ofString "kept", Str.ofString "count", Str.ofString "due", Str.ofString "hint", Str.ofString "first", Str.ofString "second", Str.ofString "one", Str.ofString "other", Str.ofString "both", Str.ofString "text", Str.ofString "k"], [true, true, true, true, true, true, true, true, true, true, true, true, true, true, false], [true, true, true, true, true, true, true, true, true, true, true, true, true, true, false], [true, false, false, true, true, true, true, true, true, true, true, true, true, true, false], [Str.ofString "_law_numbers", Str.ofString "_law_cell", Str.ofString "range", Str.ofString "list", Str.ofString "_law_join_two", Str.ofString "_law_same", Str.ofString "hint_join", Str.ofString "_law_texts", Str.ofString "_law_tells", Str.ofString "tells", Str.ofString "hint_one", Str.ofString "_law_hint_one"]⟩
def nm_law_1 : NmC := ⟨[Str.ofString "script", Str.ofString "draws", Str.ofString "turn", Str.ofString "hints", Str.ofString "kept", Str.ofString "count", Str.ofString "due", Str.ofString "hint", Str.ofString "first", Str.ofString "second", Str.ofString "one", Str.ofString "other", Str.ofString "both", Str.ofString "text", Str.ofString "k"], [false, true, true, false, false, false, false, false, false, false, false, false, false, false, true], [false, false, false, false, false, false, false, false, false, false, false, false, false, false, true], [false, false, false, false, false, false, false, false, false, false, false, false, false, false, false], [Str.ofString "_law_hint"]⟩
theorem sc_law : FnScope nm_law.N ["script"] (defScope st_law) := ⟨rfl, rfl, rfl, by decide +kernel, rfl, by decide +kernel, by decide +kernel⟩
def B_law_1 : DSt → Option Fl :=
  (sIf (bNot (tr (eCall den__law_tells (aCons (vE 12) (aCons (vE 13) aNil)))))
  (sRet (cE (.bool false)))
  sNil)
def B_law_2 : DSt → Option Fl :=
  (sSeq (sSet 12 (eCall den_hint_one (aCons (vE 10) (aCons (vE 11) aNil))))
  (sSeq (sIf (bNot (tr (eCall (den__law_same 8) (aCons (vE 12) (aCons (eCall den__law_hint_one (aCons (vE 10) (aCons (vE 11) aNil))) aNil)))))
  (sRet (cE (.bool false)))
  sNil)
  (sFor (eIter (e2 dAdd (eCall den__law_texts (aCons (vE 10) aNil)) (eCall den__law_texts (aCons (vE 11) aNil)))) (gVal 13)
  B_law_1)))
def B_law_3 : DSt → Option Fl :=
  (sFor (eIter (vE 3)) (gVal 11)
  B_law_2)
def B_law_4 : DSt → Option Fl :=
  (sIf (bOr (bNot (tr (eCall den__law_tells (aCons (eCall den_hint_join (aCons (eSl (vE 3) (oYes (cE (.int 0))) (oYes (cE (.int 2)))) aNil)) (aCons (e2 dAdd (vE 8) (vE 9)) aNil))))) (tb (e1 (dNotB true) (eCall den_tells (aCons (eCall den_hint_join (aCons (eSl (vE 3) (oYes (cE (.int 0))) (oYes (cE (.int 2)))) aNil)) (aCons (e2 dAdd (vE 8) (vE 9)) aNil))))))
  (sRet (cE (.bool false)))
  sNil)
def B_law_5 : DSt → Option Fl :=
  (sFor (eIter (eCall den__law_texts (aCons (e2 dIx (vE 3) (cE (.int 1))) aNil))) (gVal 9)
  B_law_4)
def B_law_6 : DSt → Option Fl :=
  (sSet 6 (eCall den__law_join_two (aCons (vE 6) (aCons (vE 7) aNil))))
def B_law_7 : DSt → Option Fl :=
  (sSeq (sSet 6 (e2 dIx (vE 3) (cE (.int 0))))
  (sSeq (sFor (eIter (eSl (vE 3) (oYes (cE (.int 1))) (oYes (vE 5)))) (gVal 7)
  B_law_6)
  (sIf (bOr (bNot (tr (eCall (den__law_same 8) (aCons (eCall den_hint_join (aCons (eSl (vE 3) (oYes (cE (.int 0))) (oYes (vE 5))) aNil)) (aCons (vE 6) aNil))))) (tb (e2 dNeD (vE 3) (vE 4))))
  (sRet (cE (.bool false)))
  sNil)))
def B_law_8 : DSt → Option Fl :=
  (sSeq (sSet 3 (eLc (eRng1 (cE (.int 4))) (gVal 14) bYes (eCall den__law_hint (aCons (vE 1) (aCons (e2 dAdd (e2 dMul (cE (.int 12)) (vE 2)) (e2 dMul (cE (.int 3)) (vE 14))) aNil))) [14]))
  (sSeq (sSet 4 (eCall dList (aCons (vE 3) aNil)))
  (sSeq (sFor (eIter (eLst (aCons (cE (.int 2)) (aCons (cE (.int 3)) (aCons (cE (.int 4)) aNil))))) (gVal 5)
  B_law_7)
  (sSeq (sIf (bNot (tr (eCall (den__law_same 8) (aCons (eCall den_hint_join (aCons (eLst (aCons (eCall den_hint_join (aCons (eSl (vE 3) (oYes (cE (.int 0))) (oYes (cE (.int 2)))) aNil)) (aCons (eCall den_hint_join (aCons (eSl (vE 3) (oYes (cE (.int 2))) (oYes (cE (.int 4)))) aNil)) aNil))) aNil)) (aCons (eCall den_hint_join (aCons (vE 3) aNil)) aNil)))))
  (sRet (cE (.bool false)))
  sNil)
  (sSeq (sFor (eIter (eCall den__law_texts (aCons (e2 dIx (vE 3) (cE (.int 0))) aNil))) (gVal 8)
  B_law_5)
  (sFor (eIter (vE 3)) (gVal 10)
  B_law_3))))))
def F_law : DSt → Option Fl :=
  (sSeq (sSet 1 (eCall den__law_numbers (aCons (eCall den__law_cell (aCons (vE 0) (aCons (cE (.int 0)) aNil))) (aCons (cE (.int 48)) (aCons (cE (.int 5040)) aNil)))))
  (sSeq (sFor (eRng1 (cE (.int 4))) (gVal 2)
  B_law_8)
  (sRet (cE (.bool true)))))
def den_law : List D → Option D := runD 15 1 F_law
structure Cal_law (M : MD) : Prop where
  _law_numbers : DefD M 1 "_law_numbers" den__law_numbers
  _law_cell : DefD M 1 "_law_cell" den__law_cell
  _law_texts : DefD M 1 "_law_texts" den__law_texts
  _law_hint : DefD M 1 "_law_hint" den__law_hint
  _law_same : ∀ n, DefD M (0 + n) "_law_same" (den__law_same n)
  _law_join_two : DefD M 1 "_law_join_two" den__law_join_two
  hint_join : DefD M 2 "hint_join" den_hint_join
  hint_one : DefD M 3 "hint_one" den_hint_one
  _law_tells : DefD M 1 "_law_tells" den__law_tells
  tells : DefD M 2 "tells" den_tells
  _law_hint_one : DefD M 1 "_law_hint_one" den__law_hint_one
theorem fn_law {M : MD} (Fx : Facts M) (C : Cal_law M) {f : Addr} {fd : FuncData} (F : Fun M.K "law" "law" st_law f fd) : FnOk M.P M.w M.K M.mg M.base CX0 9 f fd ["script"] (spD M.K den_law) :=
  def_fn (k := 8) F sc_law rfl (by decide +kernel) (fun X h => (ss_cons (h.setN 1 (h.call 0 C._law_numbers (a_cons (h.call 1 C._law_cell (a_cons (h.v 0) (a_cons d_int a_nil))) (a_cons d_int (a_cons d_int a_nil)))))
  (ss_cons (h.for_ [2] (h.rng1 2 Fx.b_range d_int) (h.g 2 [2])
  (ss_cons (s_lcSet (h.lcS 3 nm_law_1 [(Str.ofString "k", 14)] (h.rng1 2 Fx.b_range d_int) rfl (by decide +kernel) (fun Y h1 => (h1.g 14 [14])) (fun Y h1 => ts_nil) (fun Y h1 => (h1.call 0 C._law_hint (a_cons (h1.v 1) (a_cons (d_add (d_mul d_int (h1.v 2)) (d_mul d_int (h1.v 14))) a_nil))))))
  (ss_cons (h.setN 4 (d_frz (h.listF 3 Fx.b_list (a_cons (h.v 3) a_nil))))
  (ss_cons (h.for_ [5] (i_seq (d_frz (f_lst (a_cons d_int (a_cons d_int (a_cons d_int a_nil)))))) (h.g 5 [5])
  (ss_cons (h.setN 6 (h.ix (h.v 3) d_int))
  (ss_cons (h.for_ [7] (i_seq (d_slice (h.v 3) (o_some d_int) (o_some (h.v 5)))) (h.g 7 [7])
  (ss_one (h.setN 6 (h.call 4 C._law_join_two (a_cons (h.v 6) (a_cons (h.v 7) a_nil))))))
  (ss_one (s_if (t_w (w_or (t_not (t_truth (h.call 5 (C._law_same 8) (a_cons (h.call 6 C.hint_join (a_cons (d_slice (h.v 3) (o_some d_int) (o_some (h.v 5))) a_nil)) (a_cons (h.v 6) a_nil)) (hj := by first | exact Nat.le_refl _ | omega)))) (w_or1 (h.tne (h.v 3) (h.v 4)))))
  (ss_one (s_ret d_bl))
  ss_nil)))))
  (ss_cons (s_if (t_not (t_truth (h.call 5 (C._law_same 8) (a_cons (h.call 6 C.hint_join (a_cons (d_frz (f_lst (a_cons (h.call 6 C.hint_join (a_cons (d_slice (h.v 3) (o_some d_int) (o_some d_int)) a_nil)) (a_cons (h.call 6 C.hint_join (a_cons (d_slice (h.v 3) (o_some d_int) (o_some d_int)) a_nil)) a_nil)))) a_nil)) (a_cons (h.call 6 C.hint_join (a_cons (h.v 3) a_nil)) a_nil)) (hj := by first | exact Nat.le_refl _ | omega))))
  (ss_one (s_ret d_bl))
  ss_nil)
  (ss_cons (h.for_ [8] (i_seq (h.call 7 C._law_texts (a_cons (h.ix (h.v 3) d_int) a_nil))) (h.g 8 [8])
  (ss_one (h.for_ [9] (i_seq (h.call 7 C._law_texts (a_cons (h.ix (h.v 3) d_int) a_nil))) (h.g 9 [9])
  (ss_one (s_if (t_w (w_or (t_not (t_truth (h.call 8 C._law_tells (a_cons (h.call 6 C.hint_join (a_cons (d_slice (h.v 3) (o_some d_int) (o_some d_int)) a_nil)) (a_cons (d_add (h.v 8) (h.v 9)) a_nil))))) (w_or1 (t_notB (h.call 9 C.tells (a_cons (h.call 6 C.hint_join (a_cons (d_slice (h.v 3) (o_some d_int) (o_some d_int)) a_nil)) (a_cons (d_add (h.v 8) (h.v 9)) a_nil)))))))
  (ss_one (s_ret d_bl))
  ss_nil)))))
  (ss_one (h.for_ [10] (i_seq (h.v 3)) (h.g 10 [10])
  (ss_one (h.for_ [11] (i_seq (h.v 3)) (h.g 11 [11])
  (ss_cons (h.setN 12 (h.call 10 C.hint_one (a_cons (h.v 10) (a_cons (h.v 11) a_nil))))
  (ss_cons (s_if (t_not (t_truth (h.call 5 (C._law_same 8) (a_cons (h.v 12) (a_cons (h.call 11 C._law_hint_one (a_cons (h.v 10) (a_cons (h.v 11) a_nil))) a_nil)) (hj := by first | exact Nat.le_refl _ | omega))))
  (ss_one (s_ret d_bl))
  ss_nil)
  (ss_one (h.for_ [13] (i_seq (d_add (h.call 7 C._law_texts (a_cons (h.v 10) a_nil)) (h.call 7 C._law_texts (a_cons (h.v 11) a_nil)))) (h.g 13 [13])
  (ss_one (s_if (t_not (t_truth (h.call 8 C._law_tells (a_cons (h.v 12) (a_cons (h.v 13) a_nil)))))
  (ss_one (s_ret d_bl))
  ss_nil))))))))))))))))
  (ss_one (s_ret d_bl)))))

theorem law_fn {M : MD} (Fx : Facts M) {f : Addr} {fd : FuncData} (F : Fun M.K "law" "law" st_law f fd) : FnOk M.P M.w M.K M.mg M.base CX0 9 f fd ["script"] (spD M.K den_law) := by
  have o_are_signs := ok_are_signs (M := M) Fx
  have o_tells := ok_tells (M := M) Fx ⟨o_are_signs⟩
  have o_joined := ok_joined (M := M) Fx
  have o_hint_join := ok_hint_join (M := M) Fx ⟨o_joined⟩
  have o_begin_alike := ok_begin_alike (M := M) Fx
  have o_end_alike := ok_end_alike (M := M) Fx ⟨o_begin_alike⟩
  have o_end_of := ok_end_of (M := M) Fx
  have o_hint_one := ok_hint_one (M := M) Fx ⟨o_begin_alike, o_end_alike, o_end_of⟩
  have o__law_cell := ok__law_cell (M := M) Fx
  have o__law_numbers := ok__law_numbers (M := M) Fx
  have o__law_same := ok__law_same (M := M) Fx
  have o__law_tells := ok__law_tells (M := M) Fx
  have o__law_join_two := ok__law_join_two (M := M) Fx
  have o__law_hint_one := ok__law_hint_one (M := M) Fx
  have o__law_hint := ok__law_hint (M := M) Fx
  have o__law_texts := ok__law_texts (M := M) Fx
  exact fn_law Fx ⟨o__law_numbers, o__law_cell, o__law_texts, o__law_hint, o__law_same, o__law_join_two, o_hint_join, o_hint_one, o__law_tells, o_tells, o__law_hint_one⟩ F
/-- what law(script) promises -/
def spLaw (K : PySem.W.Frag) : Sp := fun vs H Q _ => ∃ (a : Addr) (ns : List Int), vs = [.ref a] ∧ SqL K H a (ns.map V.int) ∧ ns.length ≤ 63 ∧ (∀ z ∈ ns, Builtin.Int.intBits z ≤ 1048576) ∧ ∀ H', Q (.bl true) H'
def Plain : Prop := ∀ ns : List Int, ns.length ≤ 63 → (∀ z ∈ ns, Builtin.Int.intBits z ≤ 1048576) → den_law [.list (ns.map .int)] = some (.bool true)
theorem law_ok {M : MD} (plain : Plain) (Fx : Facts M) {f : Addr} {fd : FuncData} (F : Fun M.K "law" "law" st_law f fd) : FnOk M.P M.w M.K M.mg M.base CX0 9 f fd ["script"] (spLaw M.K) :=
  (law_fn Fx F).imp fun vs H Q E ⟨a, ns, e, hS, hl, hb, q⟩ => ⟨H, [.list (ns.map .int)], .bool true, Same.refl H, by rw [e]; exact .cons (.lst hS (RpAll.of_ints ns)) .nil, plain ns hl hb, fun B' H' v _ _ _ _ r => by cases r; exact q H'⟩
theorem all_mk {l : PySem.W.OpenLaw} {w : World} {K : PySem.W.Frag} {h : Heap} {mg : Str → Option Value} {fa : Addr} (plain : Plain) (X : K.In h) (G : h.Ns mainGlobals mg) (hfa : mg "law" = some (.ref fa))
    {f0 : Addr} {od0 an0 : Option Addr} {sl0 : Array (Option Value)} {oc0 kV0 dc0 pm0 cd0 ct0 : Value} (a0 : PySem.W.nsIn K mainGlobals "are_signs" = some (some (.ref f0))) (l0 : K.lookup f0 = some ⟨oc0, od0, .func (PySem.W.fnOf "are_signs" "are_signs" (defArgs st_are_signs) (defBody st_are_signs) (defScope st_are_signs) .none kV0 dc0 pm0 an0 cd0 ct0), sl0⟩) (c0 : PySem.W.codeIn K cd0 "are_signs" = true) (k0 : PySem.W.keepIn K (.ref f0) = true)
    {f1 : Addr} {od1 an1 : Option Addr} {sl1 : Array (Option Value)} {oc1 kV1 dc1 pm1 cd1 ct1 : Value} (a1 : PySem.W.nsIn K mainGlobals "tells" = some (some (.ref f1))) (l1 : K.lookup f1 = some ⟨oc1, od1, .func (PySem.W.fnOf "tells" "tells" (defArgs st_tells) (defBody st_tells) (defScope st_tells) .none kV1 dc1 pm1 an1 cd1 ct1), sl1⟩) (c1 : PySem.W.codeIn K cd1 "tells" = true) (k1 : PySem.W.keepIn K (.ref f1) = true)
    {f2 : Addr} {od2 an2 : Option Addr} {sl2 : Array (Option Value)} {oc2 kV2 dc2 pm2 cd2 ct2 : Value} (a2 : PySem.W.nsIn K mainGlobals "joined" = some (some (.ref f2))) (l2 : K.lookup f2 = some ⟨oc2, od2, .func (PySem.W.fnOf "joined" "joined" (defArgs st_joined) (defBody st_joined) (defScope st_joined) .none kV2 dc2 pm2 an2 cd2 ct2), sl2⟩) (c2 : PySem.W.codeIn K cd2 "joined" = true) (k2 : PySem.W.keepIn K (.ref f2) = true)
    {f3 : Addr} {od3 an3 : Option Addr} {sl3 : Array (Option Value)} {oc3 kV3 dc3 pm3 cd3 ct3 : Value} (a3 : PySem.W.nsIn K mainGlobals "hint_join" = some (some (.ref f3))) (l3 : K.lookup f3 = some ⟨oc3, od3, .func (PySem.W.fnOf "hint_join" "hint_join" (defArgs st_hint_join) (defBody st_hint_join) (defScope st_hint_join) .none kV3 dc3 pm3 an3 cd3 ct3), sl3⟩) (c3 : PySem.W.codeIn K cd3 "hint_join" = true) (k3 : PySem.W.keepIn K (.ref f3) = true)
    {f4 : Addr} {od4 an4 : Option Addr} {sl4 : Array (Option Value)} {oc4 kV4 dc4 pm4 cd4 ct4 : Value} (a4 : PySem.W.nsIn K mainGlobals "begin_alike" = some (some (.ref f4))) (l4 : K.lookup f4 = some ⟨oc4, od4, .func (PySem.W.fnOf "begin_alike" "begin_alike" (defArgs st_begin_alike) (defBody st_begin_alike) (defScope st_begin_alike) .none kV4 dc4 pm4 an4 cd4 ct4), sl4⟩) (c4 : PySem.W.codeIn K cd4 "begin_alike" = true) (k4 : PySem.W.keepIn K (.ref f4) = true)
    {f5 : Addr} {od5 an5 : Option Addr} {sl5 : Array (Option Value)} {oc5 kV5 dc5 pm5 cd5 ct5 : Value} (a5 : PySem.W.nsIn K mainGlobals "end_alike" = some (some (.ref f5))) (l5 : K.lookup f5 = some ⟨oc5, od5, .func (PySem.W.fnOf "end_alike" "end_alike" (defArgs st_end_alike) (defBody st_end_alike) (defScope st_end_alike) .none kV5 dc5 pm5 an5 cd5 ct5), sl5⟩) (c5 : PySem.W.codeIn K cd5 "end_alike" = true) (k5 : PySem.W.keepIn K (.ref f5) = true)
    {f6 : Addr} {od6 an6 : Option Addr} {sl6 : Array (Option Value)} {oc6 kV6 dc6 pm6 cd6 ct6 : Value} (a6 : PySem.W.nsIn K mainGlobals "end_of" = some (some (.ref f6))) (l6 : K.lookup f6 = some ⟨oc6, od6, .func (PySem.W.fnOf "end_of" "end_of" (defArgs st_end_of) (defBody st_end_of) (defScope st_end_of) .none kV6 dc6 pm6 an6 cd6 ct6), sl6⟩) (c6 : PySem.W.codeIn K cd6 "end_of" = true) (k6 : PySem.W.keepIn K (.ref f6) = true)
    {f7 : Addr} {od7 an7 : Option Addr} {sl7 : Array (Option Value)} {oc7 kV7 dc7 pm7 cd7 ct7 : Value} (a7 : PySem.W.nsIn K mainGlobals "hint_one" = some (some (.ref f7))) (l7 : K.lookup f7 = some ⟨oc7, od7, .func (PySem.W.fnOf "hint_one" "hint_one" (defArgs st_hint_one) (defBody st_hint_one) (defScope st_hint_one) .none kV7 dc7 pm7 an7 cd7 ct7), sl7⟩) (c7 : PySem.W.codeIn K cd7 "hint_one" = true) (k7 : PySem.W.keepIn K (.ref f7) = true)
    {f8 : Addr} {od8 an8 : Option Addr} {sl8 : Array (Option Value)} {oc8 kV8 dc8 pm8 cd8 ct8 : Value} (a8 : PySem.W.nsIn K mainGlobals "_law_cell" = some (some (.ref f8))) (l8 : K.lookup f8 = some ⟨oc8, od8, .func (PySem.W.fnOf "_law_cell" "_law_cell" (defArgs st__law_cell) (defBody st__law_cell) (defScope st__law_cell) .none kV8 dc8 pm8 an8 cd8 ct8), sl8⟩) (c8 : PySem.W.codeIn K cd8 "_law_cell" = true) (k8 : PySem.W.keepIn K (.ref f8) = true)
    {f9 : Addr} {od9 an9 : Option Addr} {sl9 : Array (Option Value)} {oc9 kV9 dc9 pm9 cd9 ct9 : Value} (a9 : PySem.W.nsIn K mainGlobals "_law_numbers" = some (some (.ref f9))) (l9 : K.lookup f9 = some ⟨oc9, od9, .func (PySem.W.fnOf "_law_numbers" "_law_numbers" (defArgs st__law_numbers) (defBody st__law_numbers) (defScope st__law_numbers) .none kV9 dc9 pm9 an9 cd9 ct9), sl9⟩) (c9 : PySem.W.codeIn K cd9 "_law_numbers" = true) (k9 : PySem.W.keepIn K (.ref f9) = true)
    {f10 : Addr} {od10 an10 : Option Addr} {sl10 : Array (Option Value)} {oc10 kV10 dc10 pm10 cd10 ct10 : Value} (a10 : PySem.W.nsIn K mainGlobals "_law_same" = some (some (.ref f10))) (l10 : K.lookup f10 = some ⟨oc10, od10, .func (PySem.W.fnOf "_law_same" "_law_same" (defArgs st__law_same) (defBody st__law_same) (defScope st__law_same) .none kV10 dc10 pm10 an10 cd10 ct10), sl10⟩) (c10 : PySem.W.codeIn K cd10 "_law_same" = true) (k10 : PySem.W.keepIn K (.ref f10) = true)
    {f11 : Addr} {od11 an11 : Option Addr} {sl11 : Array (Option Value)} {oc11 kV11 dc11 pm11 cd11 ct11 : Value} (a11 : PySem.W.nsIn K mainGlobals "_law_tells" = some (some (.ref f11))) (l11 : K.lookup f11 = some ⟨oc11, od11, .func (PySem.W.fnOf "_law_tells" "_law_tells" (defArgs st__law_tells) (defBody st__law_tells) (defScope st__law_tells) .none kV11 dc11 pm11 an11 cd11 ct11), sl11⟩) (c11 : PySem.W.codeIn K cd11 "_law_tells" = true) (k11 : PySem.W.keepIn K (.ref f11) = true)
    {f12 : Addr} {od12 an12 : Option Addr} {sl12 : Array (Option Value)} {oc12 kV12 dc12 pm12 cd12 ct12 : Value} (a12 : PySem.W.nsIn K mainGlobals "_law_join_two" = some (some (.ref f12))) (l12 : K.lookup f12 = some ⟨oc12, od12, .func (PySem.W.fnOf "_law_join_two" "_law_join_two" (defArgs st__law_join_two) (defBody st__law_join_two) (defScope st__law_join_two) .none kV12 dc12 pm12 an12 cd12 ct12), sl12⟩) (c12 : PySem.W.codeIn K cd12 "_law_join_two" = true) (k12 : PySem.W.keepIn K (.ref f12) = true)
    {f13 : Addr} {od13 an13 : Option Addr} {sl13 : Array (Option Value)} {oc13 kV13 dc13 pm13 cd13 ct13 : Value} (a13 : PySem.W.nsIn K mainGlobals "_law_hint_one" = some (some (.ref f13))) (l13 : K.lookup f13 = some ⟨oc13, od13, .func (PySem.W.fnOf "_law_hint_one" "_law_hint_one" (defArgs st__law_hint_one) (defBody st__law_hint_one) (defScope st__law_hint_one) .none kV13 dc13 pm13 an13 cd13 ct13), sl13⟩) (c13 : PySem.W.codeIn K cd13 "_law_hint_one" = true) (k13 : PySem.W.keepIn K (.ref f13) = true)
    {f14 : Addr} {od14 an14 : Option Addr} {sl14 : Array (Option Value)} {oc14 kV14 dc14 pm14 cd14 ct14 : Value} (a14 : PySem.W.nsIn K mainGlobals "_law_hint" = some (some (.ref f14))) (l14 : K.lookup f14 = some ⟨oc14, od14, .func (PySem.W.fnOf "_law_hint" "_law_hint" (defArgs st__law_hint) (defBody st__law_hint) (defScope st__law_hint) .none kV14 dc14 pm14 an14 cd14 ct14), sl14⟩) (c14 : PySem.W.codeIn K cd14 "_law_hint" = true) (k14 : PySem.W.keepIn K (.ref f14) = true)
    {f15 : Addr} {od15 an15 : Option Addr} {sl15 : Array (Option Value)} {oc15 kV15 dc15 pm15 cd15 ct15 : Value} (a15 : PySem.W.nsIn K mainGlobals "_law_texts" = some (some (.ref f15))) (l15 : K.lookup f15 = some ⟨oc15, od15, .func (PySem.W.fnOf "_law_texts" "_law_texts" (defArgs st__law_texts) (defBody st__law_texts) (defScope st__law_texts) .none kV15 dc15 pm15 an15 cd15 ct15), sl15⟩) (c15 : PySem.W.codeIn K cd15 "_law_texts" = true) (k15 : PySem.W.keepIn K (.ref f15) = true)
    {f16 : Addr} {od16 an16 : Option Addr} {sl16 : Array (Option Value)} {oc16 kV16 dc16 pm16 cd16 ct16 : Value} (a16 : PySem.W.nsIn K mainGlobals "law" = some (some (.ref f16))) (l16 : K.lookup f16 = some ⟨oc16, od16, .func (PySem.W.fnOf "law" "law" (defArgs st_law) (defBody st_law) (defScope st_law) .none kV16 dc16 pm16 an16 cd16 ct16), sl16⟩) (c16 : PySem.W.codeIn K cd16 "law" = true) (k16 : PySem.W.keepIn K (.ref f16) = true)
    (z0 : PySem.W.nsIn K mainGlobals "all" = some none)
    (z1 : PySem.W.nsIn K mainGlobals "bool" = some none)
    (z2 : PySem.W.nsIn K mainGlobals "int" = some none)
    (z3 : PySem.W.nsIn K mainGlobals "isinstance" = some none)
    (z4 : PySem.W.nsIn K mainGlobals "len" = some none)
    (z5 : PySem.W.nsIn K mainGlobals "list" = some none)
    (z6 : PySem.W.nsIn K mainGlobals "min" = some none)
    (z7 : PySem.W.nsIn K mainGlobals "range" = some none)
    (z8 : PySem.W.nsIn K mainGlobals "str" = some none)
    (z9 : PySem.W.nsIn K mainGlobals "tuple" = some none)
    {t0 : Tok} {y0 : Str} (q0 : PySem.W.nsIn K mainGlobals "IS" = some (some (.str y0 t0))) (r0 : y0 = (Str.ofString "is"))
    {t1 : Tok} {y1 : Str} (q1 : PySem.W.nsIn K mainGlobals "OPEN" = some (some (.str y1 t1))) (r1 : y1 = (Str.ofString "open"))
    {t2 : Tok} {y2 : Str} (q2 : PySem.W.nsIn K mainGlobals "SIGNS" = some (some (.str y2 t2))) (r2 : y2 = (Str.ofString "abcdefghijklmnopqrstuvwxyz0123456789.-"))
    : ∃ fd : FuncData, (∀ (s : Shared) (v : Value), BindsTo s fd ⟨[v], []⟩ [("script", v)]) ∧ ∀ base : Heap, K.In base → base.Ns mainGlobals mg → FnOk l.prog w K mg base CX0 9 fa fd ["script"] (spLaw K) := by
  have e := hfa.symm.trans (PySem.W.mg_of X G a16)
  cases e
  have F0 := fun_mk (st := st_are_signs) l0 c0 k0
  have F1 := fun_mk (st := st_tells) l1 c1 k1
  have F2 := fun_mk (st := st_joined) l2 c2 k2
  have F3 := fun_mk (st := st_hint_join) l3 c3 k3
  have F4 := fun_mk (st := st_begin_alike) l4 c4 k4
  have F5 := fun_mk (st := st_end_alike) l5 c5 k5
  have F6 := fun_mk (st := st_end_of) l6 c6 k6
  have F7 := fun_mk (st := st_hint_one) l7 c7 k7
  have F8 := fun_mk (st := st__law_cell) l8 c8 k8
  have F9 := fun_mk (st := st__law_numbers) l9 c9 k9
  have F10 := fun_mk (st := st__law_same) l10 c10 k10
  have F11 := fun_mk (st := st__law_tells) l11 c11 k11
  have F12 := fun_mk (st := st__law_join_two) l12 c12 k12
  have F13 := fun_mk (st := st__law_hint_one) l13 c13 k13
  have F14 := fun_mk (st := st__law_hint) l14 c14 k14
  have F15 := fun_mk (st := st__law_texts) l15 c15 k15
  have F16 := fun_mk (st := st_law) l16 c16 k16
  refine ⟨_, fun s v => .of_eq rfl, fun base _ _ => law_ok (M := ⟨l.prog, w, K, mg, base⟩) plain ?_ F16⟩
  exact
    { d_are_signs := ⟨_, _, F0, PySem.W.mg_of X G a0, F0.binds fun _ _ _ _ _ _ us hl => match us, hl with | [_, _], _ => rfl⟩
      d_tells := ⟨_, _, F1, PySem.W.mg_of X G a1, F1.binds fun _ _ _ _ _ _ us hl => match us, hl with | [_, _], _ => rfl⟩
      d_joined := ⟨_, _, F2, PySem.W.mg_of X G a2, F2.binds fun _ _ _ _ _ _ us hl => match us, hl with | [_, _], _ => rfl⟩
      d_hint_join := ⟨_, _, F3, PySem.W.mg_of X G a3, F3.binds fun _ _ _ _ _ _ us hl => match us, hl with | [_], _ => rfl⟩
      d_begin_alike := ⟨_, _, F4, PySem.W.mg_of X G a4, F4.binds fun _ _ _ _ _ _ us hl => match us, hl with | [_, _], _ => rfl⟩
      d_end_alike := ⟨_, _, F5, PySem.W.mg_of X G a5, F5.binds fun _ _ _ _ _ _ us hl => match us, hl with | [_, _], _ => rfl⟩
      d_end_of := ⟨_, _, F6, PySem.W.mg_of X G a6, F6.binds fun _ _ _ _ _ _ us hl => match us, hl with | [_, _], _ => rfl⟩
      d_hint_one := ⟨_, _, F7, PySem.W.mg_of X G a7, F7.binds fun _ _ _ _ _ _ us hl => match us, hl with | [_, _], _ => rfl⟩
      d__law_cell := ⟨_, _, F8, PySem.W.mg_of X G a8, F8.binds fun _ _ _ _ _ _ us hl => match us, hl with | [_, _], _ => rfl⟩
      d__law_numbers := ⟨_, _, F9, PySem.W.mg_of X G a9, F9.binds fun _ _ _ _ _ _ us hl => match us, hl with | [_, _, _], _ => rfl⟩
      d__law_same := ⟨_, _, F10, PySem.W.mg_of X G a10, F10.binds fun _ _ _ _ _ _ us hl => match us, hl with | [_, _], _ => rfl⟩
      d__law_tells := ⟨_, _, F11, PySem.W.mg_of X G a11, F11.binds fun _ _ _ _ _ _ us hl => match us, hl with | [_, _], _ => rfl⟩
      d__law_join_two := ⟨_, _, F12, PySem.W.mg_of X G a12, F12.binds fun _ _ _ _ _ _ us hl => match us, hl with | [_, _], _ => rfl⟩
      d__law_hint_one := ⟨_, _, F13, PySem.W.mg_of X G a13, F13.binds fun _ _ _ _ _ _ us hl => match us, hl with | [_, _], _ => rfl⟩
      d__law_hint := ⟨_, _, F14, PySem.W.mg_of X G a14, F14.binds fun _ _ _ _ _ _ us hl => match us, hl with | [_, _], _ => rfl⟩
      d__law_texts := ⟨_, _, F15, PySem.W.mg_of X G a15, F15.binds fun _ _ _ _ _ _ us hl => match us, hl with | [_], _ => rfl⟩
      d_law := ⟨_, _, F16, PySem.W.mg_of X G a16, F16.binds fun _ _ _ _ _ _ us hl => match us, hl with | [_], _ => rfl⟩
      b_all := PySem.W.mg_none_of X G z0
      b_bool := PySem.W.mg_none_of X G z1
      b_int := PySem.W.mg_none_of X G z2
      b_isinstance := PySem.W.mg_none_of X G z3
      b_len := PySem.W.mg_none_of X G z4
      b_list := PySem.W.mg_none_of X G z5
      b_min := PySem.W.mg_none_of X G z6
      b_range := PySem.W.mg_none_of X G z7
      b_str := PySem.W.mg_none_of X G z8
      b_tuple := PySem.W.mg_none_of X G z9
      c_IS := by subst r0; exact .str (PySem.W.mg_of X G q0) (by decide +kernel)
      c_OPEN := by subst r1; exact .str (PySem.W.mg_of X G q1) (by decide +kernel)
      c_SIGNS := by subst r2; exact .str (PySem.W.mg_of X G q2) (by decide +kernel) }
theorem walk {l : PySem.W.OpenLaw} {q : Program} {loose : List Str} {XP : (Str → Option Value) → Heap → Prop} {YP : World → Heap → Prop} {d : DefRec} {K : Params → PySem.W.Frag} (hn : l.most = some 63) (hdf : d.params.defaults = [])
    (hY : ∀ (w : World) (h : Heap), YP w h → (K w.params).In h)
    (F : ∀ (w : World) (mg : Str → Option Value) (fa : Addr) (h : Heap), (K w.params).In h → h.Ns mainGlobals mg → mg d.name = some (.ref fa) →
      ∃ fd : FuncData, (∀ (s : Shared) (u : Value), BindsTo s fd ⟨[u], []⟩ [("script", u)]) ∧ ∀ base : Heap, (K w.params).In base → base.Ns mainGlobals mg → FnOk l.prog w (K w.params) mg base CX0 9 fa fd ["script"] (spLaw (K w.params))) :
    PySem.W.WalkO q loose XP YP l.row.toRowW d [] (fun f vs => PySem.call f vs) :=
  L2.walk_ofB (n := 63) (k := 9) (x := "script") (CX := fun _ => CX0) (sp := fun w => spLaw (K w.params)) hn (by decide) hdf ⟨rfl, by decide, by decide⟩ hY F (fun _ _ a ns hl hb _ hS => ⟨a, ns, rfl, hS, hl, hb, fun _ => rfl⟩) fun _ _ _ _ _ z => z
end K14

set_option Elab.async false
set_option linter.all false
set_option autoImplicit false
set_option maxRecDepth 100000
set_option maxHeartbeats 4000000
namespace K14
open PySem PySem.Spec PyProof.Rows L2 DL
inductive Hint where
  | is (s : List Nat)
  | op (a b : List Nat)
  deriving DecidableEq
def Hint.d : Hint → D
  | .is s => .tuple [.str (Str.ofString "is"), .str (T s)]
  | .op a b => .tuple [.str (Str.ofString "open"), .str (T a), .str (T b)]
def Hint.ok (n : Nat) : Hint → Prop
  | .is s => s.length ≤ n
  | .op a b => a.length ≤ n ∧ b.length ≤ n
def Hint.join : Hint → Hint → Hint
  | .is s, .is t => .is (s ++ t)
  | .is s, .op a b => .op (s ++ a) b
  | .op a b, .is t => .op a (b ++ t)
  | .op a _, .op _ d => .op a d
theorem ne1 : (Str.ofString "open" = Str.ofString "is") ↔ False := by decide +kernel
theorem ne2 : (Str.ofString "is" = Str.ofString "open") ↔ False := by decide +kernel
theorem Hint.assoc (x y z : Hint) : (x.join y).join z = x.join (y.join z) := by
  cases x <;> cases y <;> cases z <;> simp [Hint.join]
theorem Hint.ok_join {n m : Nat} {x y : Hint} (h : x.ok n) (k : y.ok m) : (x.join y).ok (n + m) := by
  cases x <;> cases y <;> simp [Hint.join, Hint.ok] at * <;> omega
theorem fits {a b n m : Nat} (h : a ≤ n) (k : b ≤ m) (hn : n + m ≤ 16777216) : a + b ≤ sizeLine := by rw [LW.size24]; omega
theorem joined_ok {n m : Nat} {x y : Hint} (h : x.ok n) (k : y.ok m) (hn : n + m ≤ 16777216) : den_joined [x.d, y.d] = some (x.join y).d := by
  cases x <;> cases y <;> simp only [Hint.ok] at h k
  · have := fits h k hn
    simp [Hint.d, Hint.join, den_joined, runD, F_joined, atI, ixN, ne1, ne2, PyData.depth, PyData.eqv, this]
  · have := fits h k.1 hn
    simp [Hint.d, Hint.join, den_joined, runD, F_joined, atI, ixN, ne1, ne2, PyData.depth, PyData.eqv, this]
  · have := fits h.2 k hn
    simp [Hint.d, Hint.join, den_joined, runD, F_joined, atI, ixN, ne1, ne2, PyData.depth, PyData.eqv, this]
  · simp [Hint.d, Hint.join, den_joined, runD, F_joined, atI, ixN, ne1, ne2, PyData.depth, PyData.eqv]
theorem join_two_ok {n m : Nat} {x y : Hint} (h : x.ok n) (k : y.ok m) (hn : n + m ≤ 16777216) : den__law_join_two [x.d, y.d] = some (x.join y).d := by
  cases x <;> cases y <;> simp only [Hint.ok] at h k
  · have := fits h k hn
    simp [Hint.d, Hint.join, den__law_join_two, runD, F__law_join_two, atI, ixN, ne1, ne2, PyData.depth, PyData.eqv, this]
  · have := fits h k.1 hn
    simp [Hint.d, Hint.join, den__law_join_two, runD, F__law_join_two, atI, ixN, ne1, ne2, PyData.depth, PyData.eqv, this]
  · have := fits h.2 k hn
    simp [Hint.d, Hint.join, den__law_join_two, runD, F__law_join_two, atI, ixN, ne1, ne2, PyData.depth, PyData.eqv, this]
  · simp [Hint.d, Hint.join, den__law_join_two, runD, F__law_join_two, atI, ixN, ne1, ne2, PyData.depth, PyData.eqv]
/-- what a hint tells -/
def Hint.told : Hint → List Nat → Prop
  | .is s, t => t = s
  | .op a b, t => ∃ m, t = a ++ m ++ b
theorem law_tells_ok {x : Hint} {t : List Nat} (h : x.told t) : den__law_tells [x.d, .str (T t)] = some (.bool true) := by
  cases x with
  | is s => cases h; simp [Hint.d, den__law_tells, runD, F__law_tells, atI, ixN, ne1, ne2, PyData.depth, PyData.eqv]
  | op a b =>
    obtain ⟨m, rfl⟩ := h
    have e1 : cutD (a ++ (m ++ b)) (some 0) (some (a.length : Int)) = a := by rw [cutD_upto0, List.take_left]
    have e2 : cutD (a ++ (m ++ b)) (some ((a.length : Int) + (m.length + b.length) - b.length)) none = b := by
      rw [show ((a.length : Int) + (m.length + b.length) - b.length) = ((a.length + m.length : Nat) : Int) from by omega, cutD_from, ← List.append_assoc, ← List.length_append, List.drop_left]
    have e3 : ¬ ((a.length : Int) + (m.length + b.length) < a.length + b.length) := by omega
    simp [Hint.d, den__law_tells, runD, F__law_tells, atI, ixN, ne1, ne2, PyData.depth, PyData.eqv, e1, e2, e3]
theorem tells_ok {x : Hint} {t : List Nat} (h : x.told t) : den_tells [x.d, .str (T t)] = some (.bool true) := by
  cases x with
  | is s => cases h; simp [Hint.d, den_tells, runD, F_tells, atI, ixN, ne1, ne2, PyData.depth, PyData.eqv]
  | op a b =>
    obtain ⟨m, rfl⟩ := h
    have e3 : ¬ ((a.length : Int) + (m.length + b.length) < a.length + b.length) := by omega
    have e4 : a.isPrefixOf (a ++ (m ++ b)) = true := List.isPrefixOf_iff_prefix.mpr (List.prefix_append _ _)
    have e5 : b.isSuffixOf (a ++ (m ++ b)) = true := by rw [List.isSuffixOf_iff_suffix, ← List.append_assoc]; exact List.suffix_append _ _
    simp [Hint.d, den_tells, runD, F_tells, atI, ixN, ne1, ne2, PyData.depth, PyData.eqv, e3, e4, e5]
theorem told_join {x y : Hint} {s t : List Nat} (h : x.told s) (k : y.told t) : (x.join y).told (s ++ t) := by
  cases x <;> cases y <;> simp only [Hint.told, Hint.join] at *
  · rw [h, k]
  · obtain ⟨m, rfl⟩ := k; exact ⟨m, by simp [h]⟩
  · obtain ⟨m, rfl⟩ := h; exact ⟨m, by simp [k]⟩
  · obtain ⟨m, rfl⟩ := h; obtain ⟨m', rfl⟩ := k; rename_i a b c d; exact ⟨m ++ b ++ c ++ m', by simp⟩
/-- the texts -/
def somes : List (List Nat) := [[], [97], [98, 47], [120, 121, 10]]
def Hint.texts : Hint → List (List Nat)
  | .is s => [s]
  | .op a b => somes.map fun m => a ++ m ++ b
theorem Hint.texts_told (x : Hint) : ∀ t ∈ x.texts, x.told t := by
  cases x with
  | is s => intro t h; exact List.mem_singleton.mp h
  | op a b => intro t h; obtain ⟨m, _, rfl⟩ := List.mem_map.mp h; exact ⟨m, rfl⟩
def txt (l : List Nat) : D := .str (T l)
theorem sm0 : Str.ofString "" = T [] := by decide +kernel
theorem sm1 : Str.ofString "a" = T [97] := by decide +kernel
theorem sm2 : Str.ofString "b/" = T [98, 47] := by decide +kernel
theorem sm3 : Str.ofString "xy\n" = T [120, 121, 10] := by decide +kernel
theorem texts_ok {x : Hint} (h : x.ok 1000) : den__law_texts [x.d] = some (.list (x.texts.map txt)) := by
  cases x with
  | is s => simp [Hint.d, den__law_texts, runD, F__law_texts, atI, ixN, ne1, ne2, PyData.depth, PyData.eqv, Hint.texts, txt, LW.size24]
  | op a b =>
    simp only [Hint.ok] at h
    have f0 : a.length ≤ sizeLine := by rw [LW.size24]; omega
    have f1 : a.length + 1 ≤ sizeLine := by rw [LW.size24]; omega
    have f2 : a.length + 2 ≤ sizeLine := by rw [LW.size24]; omega
    have f3 : a.length + 3 ≤ sizeLine := by rw [LW.size24]; omega
    have g0 : a.length + b.length ≤ sizeLine := by rw [LW.size24]; omega
    have g1 : a.length + 1 + b.length ≤ sizeLine := by rw [LW.size24]; omega
    have g2 : a.length + 2 + b.length ≤ sizeLine := by rw [LW.size24]; omega
    have g3 : a.length + 3 + b.length ≤ sizeLine := by rw [LW.size24]; omega
    have s4 : 4 ≤ sizeLine := by rw [LW.size24]; omega
    simp [Hint.d, den__law_texts, runD, F__law_texts, atI, ixN, ne1, ne2, PyData.depth, PyData.eqv, Hint.texts, txt, somes, lcD, sm0, sm1, sm2, sm3, f0, f1, f2, f3, g0, g1, g2, g3, s4]
end K14

set_option Elab.async false
set_option linter.all false
set_option autoImplicit false
set_option maxRecDepth 100000
set_option maxHeartbeats 4000000
namespace K14
open PySem PySem.Spec PyProof.Rows L2 DL
def lcp : List Nat → List Nat → Nat
  | x :: a, y :: b => if x = y then lcp a b + 1 else 0
  | _, _ => 0
theorem lcp_lt : ∀ (a b : List Nat) (k : Nat), k < lcp a b → ∃ c, a[k]? = some c ∧ b[k]? = some c
  | [], _, _, h => by simp [lcp] at h
  | _ :: _, [], _, h => by simp [lcp] at h
  | x :: a, y :: b, k, h => by
    unfold lcp at h
    split at h
    · rename_i e
      subst e
      cases k with
      | zero => exact ⟨x, rfl, rfl⟩
      | succ k => simpa using lcp_lt a b k (by omega)
    · omega
theorem lcp_ne : ∀ (a b : List Nat) (c d : Nat), a[lcp a b]? = some c → b[lcp a b]? = some d → c ≠ d
  | [], _, _, _, h, _ => by simp at h
  | _ :: _, [], _, _, _, h => by simp at h
  | x :: a, y :: b, c, d, h, k => by
    unfold lcp at h k
    split at h
    · rename_i e
      rw [if_pos e] at k
      exact lcp_ne a b c d (by simpa using h) (by simpa using k)
    · rename_i e
      rw [if_neg e] at k
      simp at h k
      rw [← h, ← k]
      exact e
theorem lcp_le : ∀ (a b : List Nat), lcp a b ≤ a.length ∧ lcp a b ≤ b.length
  | [], _ => by simp [lcp]
  | _ :: _, [] => by simp [lcp]
  | x :: a, y :: b => by
    have := lcp_le a b
    unfold lcp
    split <;> simp <;> omega
theorem lcp_take : ∀ (a b : List Nat), a.take (lcp a b) = b.take (lcp a b)
  | [], _ => by simp [lcp]
  | _ :: _, [] => by simp [lcp]
  | x :: a, y :: b => by
    have := lcp_take a b
    unfold lcp
    split
    · rename_i e; simp [e, this]
    · simp
/-- the end alike -/
def lce (a b : List Nat) : Nat := lcp a.reverse b.reverse
theorem lce_drop (a b : List Nat) : a.drop (a.length - lce a b) = b.drop (b.length - lce a b) := by
  have h := lcp_take a.reverse b.reverse
  rw [show lcp a.reverse b.reverse = lce a b from rfl, List.take_reverse, List.take_reverse] at h
  exact List.reverse_inj.mp h
def chr (c : Nat) : D := .str (T [c])
theorem ix_txt (l : List Nat) (k : Nat) : dIx (.str (T l)) (.int (k : Int)) = (l[k]?).map chr := by
  show (atI (T l).cps.toList (k : Int)).map _ = _
  rw [T_cps, atI_ofNat]
  rfl
theorem begin_ok (a b : List Nat) (ha : a.length ≤ 1000) : den_begin_alike [.str (T a), .str (T b)] = some (.int (lcp a b)) := by
  have hl := lcp_le a b
  obtain ⟨s', h, rfl⟩ := while_inv (c := bAnd (tb (e2 dLtD (vE 2) (eCall dMin2 (aCons (eCall dLen (aCons (vE 0) aNil)) (aCons (eCall dLen (aCons (vE 1) aNil)) aNil))))) (tb (e2 dEqD (e2 dIx (vE 0) (vE 2)) (e2 dIx (vE 1) (vE 2)))))
    (F := B_begin_alike_1) (fun s => ∃ k : Nat, k ≤ lcp a b ∧ s = [some (.val (.str (T a))), some (.val (.str (T b))), some (.val (.int (k : Int)))])
    (fun s => match s with | [_, _, some (.val (.int k))] => lcp a b - k.toNat | _ => 0) (fun s => s = [some (.val (.str (T a))), some (.val (.str (T b))), some (.val (.int (lcp a b : Int)))])
    (fun s hs => by
      obtain ⟨k, hk, rfl⟩ := hs
      by_cases h : k < lcp a b
      · obtain ⟨c, h1, h2⟩ := lcp_lt a b k h
        have i1 := ix_txt a k
        have i2 := ix_txt b k
        rw [h1] at i1
        rw [h2] at i2
        refine .inr ⟨?_, [some (.val (.str (T a))), some (.val (.str (T b))), some (.val (.int ((k + 1 : Nat) : Int)))], .inl ?_, ⟨k + 1, h, rfl⟩, ?_⟩
        · have e1 : (k : Int) < if b.length < a.length then (b.length : Int) else a.length := by split <;> omega
          simp [-dIx, i1, i2, e1, chr, PyData.depth, PyData.eqv]
        · simp [B_begin_alike_1]
        · simp
          omega
      · have : k = lcp a b := by omega
        subst this
        refine .inl ⟨?_, rfl⟩
        by_cases e1 : (lcp a b : Int) < if b.length < a.length then (b.length : Int) else a.length
        · have l1 : lcp a b < a.length := by split at e1 <;> omega
          have l2 : lcp a b < b.length := by split at e1 <;> omega
          have n := lcp_ne a b _ _ (List.getElem?_eq_getElem l1) (List.getElem?_eq_getElem l2)
          have i1 := ix_txt a (lcp a b)
          have i2 := ix_txt b (lcp a b)
          rw [List.getElem?_eq_getElem l1] at i1
          rw [List.getElem?_eq_getElem l2] at i2
          simp [-dIx, i1, i2, e1, chr, PyData.depth, PyData.eqv, n]
        · simp [-dIx, e1])
    1000000 [some (.val (.str (T a))), some (.val (.str (T b))), some (.val (.int ((0 : Nat) : Int)))] ⟨0, Nat.zero_le _, rfl⟩ (by show lcp a b - 0 < _; omega)
  refine runD_ret rfl (s := [some (.val (.str (T a))), some (.val (.str (T b))), some (.val (.int (lcp a b : Int)))]) ?_
  unfold F_begin_alike
  rw [sSeq_nx (s1 := [some (.val (.str (T a))), some (.val (.str (T b))), some (.val (.int ((0 : Nat) : Int)))]) (by simp), sSeq_nx h]
  simp
theorem end_ok (a b : List Nat) (ha : a.length ≤ 1000) : den_end_alike [.str (T a), .str (T b)] = some (.str (T (a.drop (a.length - lce a b)))) := by
  have h := begin_ok a.reverse b.reverse (by simpa using ha)
  have hl := lcp_le a.reverse b.reverse
  rw [List.length_reverse] at hl
  have e : cutD a (some ((a.length : Int) - (lcp a.reverse b.reverse : Nat))) none = a.drop (a.length - lce a b) := by
    rw [show ((a.length : Int) - (lcp a.reverse b.reverse : Nat)) = ((a.length - lcp a.reverse b.reverse : Nat) : Int) from by omega, cutD_from]
    rfl
  simp [den_end_alike, runD, F_end_alike, h, e]
def Hint.fst : Hint → List Nat
  | .is s => s
  | .op a _ => a
def Hint.tail (k : Nat) : Hint → List Nat
  | .is s => s.drop k
  | .op _ b => b
theorem end_of_ok (x : Hint) (k : Nat) : den_end_of [x.d, .int (k : Int)] = some (.str (T (x.tail k))) := by
  cases x with
  | is s =>
    have e := cutD_from s k
    simp [Hint.d, Hint.tail, den_end_of, runD, F_end_of, atI, ixN, ne1, ne2, PyData.depth, PyData.eqv, e]
  | op a b => simp [Hint.d, Hint.tail, den_end_of, runD, F_end_of, atI, ixN, ne1, ne2, PyData.depth, PyData.eqv]
def Hint.both (x y : Hint) : Hint :=
  .op (x.fst.take (lcp x.fst y.fst)) ((x.tail (lcp x.fst y.fst)).drop ((x.tail (lcp x.fst y.fst)).length - lce (x.tail (lcp x.fst y.fst)) (y.tail (lcp x.fst y.fst))))
theorem eqv_d (x y : Hint) : (PyData.eqv x.d y.d = true) ↔ x = y := by
  cases x <;> cases y <;> simp [Hint.d, PyData.eqv, PyData.eqvAll, ne1, ne2]
theorem lay_d (x : Hint) : lay x.d = true := by cases x <;> simp [Hint.d, PyData.depth, PyData.depthAll]
theorem eq_d (x y : Hint) : dEq x.d y.d = some (PyData.eqv x.d y.d) := by unfold dEq; rw [lay_d, lay_d]; rfl
theorem eq_ne {x y : Hint} (h : x ≠ y) : PyData.eqv x.d y.d = false := by
  cases e : PyData.eqv x.d y.d
  · rfl
  · exact absurd ((eqv_d x y).mp e) h
theorem eq_self (x : Hint) : PyData.eqv x.d x.d = true := (eqv_d x x).mpr rfl
theorem ix1 (x : Hint) : dIx x.d (.int 1) = some (.str (T x.fst)) := by cases x <;> simp [Hint.d, Hint.fst, atI, ixN]
theorem fst_le {x : Hint} {n : Nat} (h : x.ok n) : x.fst.length ≤ n := by cases x <;> simp only [Hint.ok, Hint.fst] at * <;> omega
theorem tail_le {x : Hint} {n : Nat} (h : x.ok n) (k : Nat) : (x.tail k).length ≤ n := by cases x <;> simp only [Hint.ok, Hint.tail, List.length_drop] at * <;> omega
theorem hint_one_ok {x y : Hint} (hx : x.ok 1000) (hy : y.ok 1000) : den_hint_one [x.d, y.d] = some (if x = y then x.d else (x.both y).d) := by
  have e0 := eq_d x y
  have b1 := begin_ok x.fst y.fst (fst_le hx)
  have b2 := end_of_ok x (lcp x.fst y.fst)
  have b3 := end_of_ok y (lcp x.fst y.fst)
  have b4 := end_ok (x.tail (lcp x.fst y.fst)) (y.tail (lcp x.fst y.fst)) (tail_le hx _)
  by_cases h : x = y
  · subst h
    simp [-dEq, -dIx, den_hint_one, runD, F_hint_one, eq_self, e0]
  · have e3 := cutD_upto x.fst (lcp x.fst y.fst)
    simp [-dEq, -dIx, den_hint_one, runD, F_hint_one, eq_ne h, e0, h, ix1, b1, b2, b3, b4, e3]
    rfl
end K14

set_option Elab.async false
set_option linter.all false
set_option autoImplicit false
set_option maxRecDepth 100000
set_option maxHeartbeats 4000000
namespace K14
open PySem PySem.Spec PyProof.Rows L2 DL
theorem app2 (x : Hint) (k : Nat) (l : List D) (a b c j : Option L) (hl : l.length < sizeLine) :
    B__law_hint_one_2 [a, b, some (.val (.int (k : Int))), some (.own (.list l) false), some (.val x.d), j] = some (.nx [a, b, some (.val (.int (k : Int))), some (.own (.list (l ++ [.str (T (x.tail k))])) false), some (.val x.d), j]) := by
  cases x with
  | is s =>
    have e := cutD_from s k
    simp [B__law_hint_one_2, Hint.d, Hint.tail, atI, ixN, ne1, ne2, PyData.depth, PyData.eqv, e, hl]
  | op a b =>
    have e := cutD_from a k
    simp [B__law_hint_one_2, Hint.d, Hint.tail, atI, ixN, ne1, ne2, PyData.depth, PyData.eqv, e, hl]
theorem ix_rev (l : List Nat) (j : Nat) (h : j < l.length) : dIx (.str (T l)) (.int ((l.length : Int) - 1 - j)) = (l.reverse[j]?).map chr := by
  rw [show ((l.length : Int) - 1 - j) = ((l.length - 1 - j : Nat) : Int) from by omega, ix_txt, List.getElem?_reverse h]
theorem law_hint_one_ok {x y : Hint} (hx : x.ok 1000) (hy : y.ok 1000) : den__law_hint_one [x.d, y.d] = some (if x = y then x.d else (x.both y).d) := by
  have e0 := eq_d x y
  by_cases h : x = y
  · subst h
    simp [-dEq, -dIx, den__law_hint_one, runD, F__law_hint_one, eq_self, e0]
  · rw [if_neg h]
    let K := lcp x.fst y.fst
    let e := x.tail K
    let f := y.tail K
    let J := lce e f
    have hK := lcp_le x.fst y.fst
    have hJ := lcp_le e.reverse f.reverse
    rw [List.length_reverse, List.length_reverse] at hJ
    have l1 := fst_le hx
    have l2 : e.length ≤ 1000 := tail_le hx K
    obtain ⟨s', h1, rfl⟩ := while_inv (c := (bAnd (tb (e2 dLtD (vE 2) (eCall dLen (aCons (e2 dIx (vE 0) (cE (.int 1))) aNil)))) (bAnd (tb (e2 dLtD (vE 2) (eCall dLen (aCons (e2 dIx (vE 1) (cE (.int 1))) aNil)))) (tb (e2 dEqD (e2 dIx (e2 dIx (vE 0) (cE (.int 1))) (vE 2)) (e2 dIx (e2 dIx (vE 1) (cE (.int 1))) (vE 2)))))))
      (F := B__law_hint_one_3) (fun s => ∃ k : Nat, k ≤ lcp x.fst y.fst ∧ s = [some (.val x.d), some (.val y.d), some (.val (.int (k : Int))), none, none, none])
      (fun s => match s with | [_, _, some (.val (.int k)), _, _, _] => lcp x.fst y.fst - k.toNat | _ => 0) (fun s => s = [some (.val x.d), some (.val y.d), some (.val (.int (lcp x.fst y.fst : Int))), none, none, none])
      (fun s hs => by
        obtain ⟨k, hk, rfl⟩ := hs
        have i1 := ix_txt x.fst k
        have i2 := ix_txt y.fst k
        by_cases h : k < lcp x.fst y.fst
        · obtain ⟨c, h1, h2⟩ := lcp_lt _ _ k h
          rw [h1] at i1
          rw [h2] at i2
          refine .inr ⟨?_, [some (.val x.d), some (.val y.d), some (.val (.int ((k + 1 : Nat) : Int))), none, none, none], .inl ?_, ⟨k + 1, h, rfl⟩, ?_⟩
          · have g1 : k < x.fst.length := by omega
            have g2 : k < y.fst.length := by omega
            simp [-dIx, ix1, i1, i2, g1, g2, chr, PyData.depth, PyData.eqv]
          · simp [B__law_hint_one_3]
          · simp
            omega
        · have : k = lcp x.fst y.fst := by omega
          subst this
          refine .inl ⟨?_, rfl⟩
          by_cases g1 : lcp x.fst y.fst < x.fst.length
          · by_cases g2 : lcp x.fst y.fst < y.fst.length
            · have n := lcp_ne _ _ _ _ (List.getElem?_eq_getElem g1) (List.getElem?_eq_getElem g2)
              rw [List.getElem?_eq_getElem g1] at i1
              rw [List.getElem?_eq_getElem g2] at i2
              simp [-dIx, ix1, i1, i2, g1, g2, chr, PyData.depth, PyData.eqv, n]
            · simp [-dIx, ix1, g1, g2]
          · simp [-dIx, ix1, g1])
      1000000 [some (.val x.d), some (.val y.d), some (.val (.int ((0 : Nat) : Int))), none, none, none] ⟨0, Nat.zero_le _, rfl⟩ (by show lcp x.fst y.fst - 0 < _; omega)
    obtain ⟨s', h2, rfl⟩ := while_inv (c := (bT (bAnd (tb (e2 dLtD (vE 5) (eCall dLen (aCons (e2 dIx (vE 3) (cE (.int 0))) aNil)))) (bAnd (tb (e2 dLtD (vE 5) (eCall dLen (aCons (e2 dIx (vE 3) (cE (.int 1))) aNil)))) (tb (e2 dEqD (e2 dIx (e2 dIx (vE 3) (cE (.int 0))) (e2 dSub (e2 dSub (eCall dLen (aCons (e2 dIx (vE 3) (cE (.int 0))) aNil)) (cE (.int 1))) (vE 5))) (e2 dIx (e2 dIx (vE 3) (cE (.int 1))) (e2 dSub (e2 dSub (eCall dLen (aCons (e2 dIx (vE 3) (cE (.int 1))) aNil)) (cE (.int 1))) (vE 5)))))))))
      (F := B__law_hint_one_1) (fun s => ∃ k : Nat, k ≤ lce e f ∧ s = [some (.val x.d), some (.val y.d), some (.val (.int (K : Int))), some (.own (.list [.str (T e), .str (T f)]) false), some (.val y.d), some (.val (.int (k : Int)))])
      (fun s => match s with | [_, _, _, _, _, some (.val (.int k))] => lce e f - k.toNat | _ => 0) (fun s => s = [some (.val x.d), some (.val y.d), some (.val (.int (K : Int))), some (.own (.list [.str (T e), .str (T f)]) false), some (.val y.d), some (.val (.int (lce e f : Int)))])
      (fun s hs => by
        obtain ⟨k, hk, rfl⟩ := hs
        have a0 : dIx (.list [.str (T e), .str (T f)]) (.int 0) = some (.str (T e)) := rfl
        have a1 : dIx (.list [.str (T e), .str (T f)]) (.int 1) = some (.str (T f)) := rfl
        by_cases h : k < lce e f
        · have g1 : k < e.length := by unfold lce at h; omega
          have g2 : k < f.length := by unfold lce at h; omega
          have i1 := ix_rev e k g1
          have i2 := ix_rev f k g2
          obtain ⟨c, h1, h2⟩ := lcp_lt _ _ k h
          rw [h1] at i1
          rw [h2] at i2
          refine .inr ⟨?_, [some (.val x.d), some (.val y.d), some (.val (.int (K : Int))), some (.own (.list [.str (T e), .str (T f)]) false), some (.val y.d), some (.val (.int ((k + 1 : Nat) : Int)))], .inl ?_, ⟨k + 1, h, rfl⟩, ?_⟩
          · simp [-dIx, a0, a1, i1, i2, g1, g2, chr, PyData.depth, PyData.eqv]
          · simp [B__law_hint_one_1]
          · simp
            omega
        · have : k = lce e f := by omega
          subst this
          refine .inl ⟨?_, rfl⟩
          by_cases g1 : lce e f < e.length
          · by_cases g2 : lce e f < f.length
            · have i1 := ix_rev e _ g1
              have i2 := ix_rev f _ g2
              have g1' : lcp e.reverse f.reverse < e.reverse.length := by rw [List.length_reverse]; exact g1
              have g2' : lcp e.reverse f.reverse < f.reverse.length := by rw [List.length_reverse]; exact g2
              have n := lcp_ne _ _ _ _ (List.getElem?_eq_getElem g1') (List.getElem?_eq_getElem g2')
              have i1' : dIx (.str (T e)) (.int ((e.length : Int) - 1 - (lce e f : Nat))) = some (chr (e.reverse[lcp e.reverse f.reverse])) := by
                rw [i1, show lce e f = lcp e.reverse f.reverse from rfl, List.getElem?_eq_getElem g1']; rfl
              have i2' : dIx (.str (T f)) (.int ((f.length : Int) - 1 - (lce e f : Nat))) = some (chr (f.reverse[lcp e.reverse f.reverse])) := by
                rw [i2, show lce e f = lcp e.reverse f.reverse from rfl, List.getElem?_eq_getElem g2']; rfl
              simp [-dIx, -List.getElem_reverse, a0, a1, i1', i2', g1, g2, chr, PyData.depth, PyData.eqv, n]
            · simp [-dIx, a0, a1, g1, g2]
          · simp [-dIx, a0, g1])
      1000000 [some (.val x.d), some (.val y.d), some (.val (.int (K : Int))), some (.own (.list [.str (T e), .str (T f)]) false), some (.val y.d), some (.val (.int ((0 : Nat) : Int)))] ⟨0, Nat.zero_le _, rfl⟩ (by show lce e f - 0 < _; unfold lce; omega)
    refine runD_ret rfl (s := [some (.val x.d), some (.val y.d), some (.val (.int (K : Int))), some (.val (.list [.str (T e), .str (T f)])), some (.val y.d), some (.val (.int (lce e f : Int)))]) ?_
    unfold F__law_hint_one
    rw [sSeq_nx (s1 := [some (.val x.d), some (.val y.d), none, none, none, none]) (by rw [sIf_no (by simp [-dEq, e0, eq_ne h])]; rfl)]
    rw [sSeq_nx (s1 := [some (.val x.d), some (.val y.d), some (.val (.int ((0 : Nat) : Int))), none, none, none]) (by simp), sSeq_nx h1]
    rw [sSeq_nx (s1 := [some (.val x.d), some (.val y.d), some (.val (.int (K : Int))), some (.own (.list []) false), none, none]) (by simp [K])]
    rw [sSeq_nx (s1 := [some (.val x.d), some (.val y.d), some (.val (.int (K : Int))), some (.own (.list [.str (T e), .str (T f)]) false), some (.val y.d), none]) (by
      rw [sFor_go (items := [x.d, y.d]) (by simp)]
      have p1 := app2 x K [] (some (.val x.d)) (some (.val y.d)) none none (by simp)
      have p2 := app2 y K [.str (T e)] (some (.val x.d)) (some (.val y.d)) none none (by simp)
      simp only [List.nil_append, List.cons_append] at p1 p2
      simp [loopD, p1, p2, e, f])]
    rw [sSeq_nx (s1 := [some (.val x.d), some (.val y.d), some (.val (.int (K : Int))), some (.own (.list [.str (T e), .str (T f)]) false), some (.val y.d), some (.val (.int ((0 : Nat) : Int)))]) (by simp), sSeq_nx h2]
    have a0 : dIx (.list [.str (T e), .str (T f)]) (.int 0) = some (.str (T e)) := rfl
    have c1 := cutD_upto0 x.fst K
    have c2 : cutD e (some ((e.length : Int) - (lce e f : Nat))) none = e.drop (e.length - lce e f) := by
      rw [show ((e.length : Int) - (lce e f : Nat)) = ((e.length - lce e f : Nat) : Int) from by unfold lce; omega, cutD_from]
    simp [-dIx, ix1, a0, c1, c2]
    rfl
theorem both_left {x y : Hint} {t : List Nat} (h : x.told t) : (x.both y).told t := by
  unfold Hint.both
  generalize hk : lcp x.fst y.fst = k
  generalize hj : (x.tail k).length - lce (x.tail k) (y.tail k) = j
  cases x with
  | is s =>
    have h : t = s := h
    subst h
    refine ⟨(t.drop k).take j, ?_⟩
    show t = t.take k ++ (t.drop k).take j ++ (t.drop k).drop j
    rw [List.append_assoc, List.take_append_drop, List.take_append_drop]
  | op a b =>
    obtain ⟨m, rfl⟩ := h
    refine ⟨a.drop k ++ m ++ b.take j, ?_⟩
    show a ++ m ++ b = a.take k ++ (a.drop k ++ m ++ b.take j) ++ b.drop j
    have e1 := List.take_append_drop k a
    have e2 := List.take_append_drop j b
    calc a ++ m ++ b = (a.take k ++ a.drop k) ++ m ++ (b.take j ++ b.drop j) := by rw [e1, e2]
      _ = _ := by simp only [List.append_assoc]
theorem both_right {x y : Hint} {t : List Nat} (h : y.told t) : (x.both y).told t := by
  unfold Hint.both
  rw [lcp_take, lce_drop]
  generalize hk : lcp x.fst y.fst = k
  generalize hj : (y.tail k).length - lce (x.tail k) (y.tail k) = j
  cases y with
  | is s =>
    have h : t = s := h
    subst h
    refine ⟨(t.drop k).take j, ?_⟩
    show t = t.take k ++ (t.drop k).take j ++ (t.drop k).drop j
    rw [List.append_assoc, List.take_append_drop, List.take_append_drop]
  | op a b =>
    obtain ⟨m, rfl⟩ := h
    refine ⟨a.drop k ++ m ++ b.take j, ?_⟩
    show a ++ m ++ b = a.take k ++ (a.drop k ++ m ++ b.take j) ++ b.drop j
    have e1 := List.take_append_drop k a
    have e2 := List.take_append_drop j b
    calc a ++ m ++ b = (a.take k ++ a.drop k) ++ m ++ (b.take j ++ b.drop j) := by rw [e1, e2]
      _ = _ := by simp only [List.append_assoc]
end K14

set_option Elab.async false
set_option linter.all false
set_option autoImplicit false
set_option maxRecDepth 100000
set_option maxHeartbeats 4000000
namespace K14
open PySem PySem.Spec PyProof.Rows L2 DL
theorem p3 : Str.ofString "ab" = T [97, 98] := by decide +kernel
theorem p4 : Str.ofString "x\ny\n" = T [120, 10, 121, 10] := by decide +kernel
theorem p5 : Str.ofString "/b" = T [47, 98] := by decide +kernel
theorem p6 : Str.ofString "a/b" = T [97, 47, 98] := by decide +kernel
theorem p7 : Str.ofString "c" = T [99] := by decide +kernel
def partsL : List D := [.str (T []), .str (T [97]), .str (T [97, 98]), .str (T [98, 47]), .str (T [120, 10, 121, 10]), .str (T [47, 98]), .str (T [97, 47, 98]), .str (T [99])]
theorem part_ok (x : Int) : ∃ z : List Nat, dIx (.list partsL) (.int (x % 8)) = some (.str (T z)) ∧ z.length ≤ 5 := by
  have : x % 8 = 0 ∨ x % 8 = 1 ∨ x % 8 = 2 ∨ x % 8 = 3 ∨ x % 8 = 4 ∨ x % 8 = 5 ∨ x % 8 = 6 ∨ x % 8 = 7 := by omega
  rcases this with h | h | h | h | h | h | h | h <;> rw [h] <;> exact ⟨_, rfl, by decide⟩
theorem hint_ok (l : List Int) (k : Nat) (hk : k + 2 < l.length) : ∃ h : Hint, h.ok 10 ∧ den__law_hint [.list (l.map .int), .int (k : Int)] = some h.d := by
  obtain ⟨a, ha, la⟩ := part_ok l[k + 1]
  obtain ⟨b, hb, lb⟩ := part_ok l[k + 2]
  have i0 : dIx (.list (l.map .int)) (.int (k : Int)) = some (.int l[k]) := by
    show atI _ _ = _
    rw [DL.atI_ofNat, List.getElem?_map, List.getElem?_eq_getElem (by omega)]
    rfl
  have i1 : dIx (.list (l.map .int)) (.int ((k : Int) + 1)) = some (.int l[k + 1]) := by
    show atI _ ((k + 1 : Nat) : Int) = _
    rw [DL.atI_ofNat, List.getElem?_map, List.getElem?_eq_getElem (by omega)]
    rfl
  have i2 : dIx (.list (l.map .int)) (.int ((k : Int) + 2)) = some (.int l[k + 2]) := by
    show atI _ ((k + 2 : Nat) : Int) = _
    rw [DL.atI_ofNat, List.getElem?_map, List.getElem?_eq_getElem (by omega)]
    rfl
  have e1 : mkLst partsL = some (.list partsL) := by simp [partsL]
  unfold partsL at ha hb
  by_cases h : l[k] % 2 = 0
  · refine ⟨.is (a ++ b), by show (a ++ b).length ≤ 10; simp; omega, ?_⟩
    have hf : a.length + b.length ≤ sizeLine := fits la lb (by decide)
    simp [-dIx, den__law_hint, runD, F__law_hint, sm0, sm1, sm2, p3, p4, p5, p6, p7, i0, i1, i2, h, PyData.depth, PyData.eqv, ha, hb, hf, Hint.d]
  · refine ⟨.op a b, ⟨by omega, by omega⟩, ?_⟩
    simp [-dIx, den__law_hint, runD, F__law_hint, sm0, sm1, sm2, p3, p4, p5, p6, p7, i0, i1, i2, h, PyData.depth, PyData.eqv, ha, hb, Hint.d]
theorem hint_join_ok (x : Hint) (ys : List Hint) (hx : x.ok 100) (hy : ∀ y ∈ ys, y.ok 100) (hl : ys.length ≤ 100) : den_hint_join [.list ((x :: ys).map Hint.d)] = some (ys.foldl Hint.join x).d := by
  have key : ∀ (zs : List Hint) (w : Hint) (n : Nat) (a : D) (b : Option D), w.ok n → (∀ y ∈ zs, y.ok 100) → n + 100 * zs.length ≤ 1000000 → ∃ c : Option D, loopD (gVal 2) B_hint_join_1 (zs.map Hint.d) [some (.val a), some (.val w.d), b.map .val] = some (.nx [some (.val a), some (.val (zs.foldl Hint.join w).d), c.map .val]) := by
    intro zs
    induction zs with
    | nil => intro w n a b _ _ _; exact ⟨b, rfl⟩
    | cons z zs ih =>
      intro w n a b hw hz hn
      have j := joined_ok hw (hz z List.mem_cons_self) (by simp at hn; omega)
      obtain ⟨c, hc⟩ := ih (w.join z) (n + 100) a (some z.d) (Hint.ok_join hw (hz z List.mem_cons_self)) (fun y hy => hz y (List.mem_cons_of_mem _ hy)) (by simp at hn; omega)
      refine ⟨c, ?_⟩
      simp only [Option.map_some] at hc
      have hb : B_hint_join_1 [some (.val a), some (.val w.d), some (.val z.d)] = some (.nx [some (.val a), some (.val (w.join z).d), some (.val z.d)]) := by simp [B_hint_join_1, j]
      cases b <;> simp [loopD, hb, hc]
  obtain ⟨c, hc⟩ := key ys x 100 (.list ((x :: ys).map Hint.d)) none hx hy (by omega)
  simp only [Option.map_none] at hc
  have e1 : cutD (x.d :: ys.map Hint.d) (some 1) none = ys.map Hint.d := cutD_from (x.d :: ys.map Hint.d) 1
  have e0 : dIx (.list (x.d :: ys.map Hint.d)) (.int 0) = some x.d := by simp [DL.atI_zero]
  simp only [List.map_cons] at hc
  simp [-dIx, den_hint_join, runD, F_hint_join, e0, e1, hc]
theorem plain_d (x : Hint) : LW.plainD 8 x.d = true := by cases x <;> rfl
theorem same_d (x : Hint) : den__law_same 8 [x.d, x.d] = some (.bool true) := LW.same_refl 8 _ (plain_d x)
/-! the law's state -/
structure I (l : List Int) (hs : D) (s : DSt) : Prop where
  v : Val 15 s
  d1 : vE 1 s = some (.list (l.map .int))
  d3 : vE 3 s = some hs
  d4 : vE 4 s = some hs
  n14 : s[14]? = some none
theorem I.set {l : List Int} {hs : D} {s : DSt} (h : I l hs s) (i : Nat) (d : D) (h1 : i ≠ 1) (h3 : i ≠ 3) (h4 : i ≠ 4) (h5 : i ≠ 14) : I l hs (List.set s i (some (.val d))) :=
  ⟨h.v.set i d, by rw [vE_ne h1]; exact h.d1, by rw [vE_ne h3]; exact h.d3, by rw [vE_ne h4]; exact h.d4, by rw [List.getElem?_set_ne h5]; exact h.n14⟩
theorem join_loop {l : List Int} {hs : D} : ∀ (ys : List Hint) (x : Hint) (n : Nat) (s : DSt), I l hs s → vE 6 s = some x.d → x.ok n → (∀ y ∈ ys, y.ok 10) → n + 10 * ys.length ≤ 1000000 →
    ∃ s', loopD (gVal 7) B_law_6 (ys.map Hint.d) s = some (.nx s') ∧ I l hs s' ∧ vE 6 s' = some (ys.foldl Hint.join x).d ∧ vE 5 s' = vE 5 s
  | [], x, n, s, h, e, _, _, _ => ⟨s, rfl, h, e, rfl⟩
  | y :: ys, x, n, s, h, e, hx, hy, hn => by
    have j := join_two_ok hx (hy y List.mem_cons_self) (by simp at hn; omega)
    have I1 := h.set 7 y.d (by decide) (by decide) (by decide) (by decide)
    have I2 := I1.set 6 (x.join y).d (by decide) (by decide) (by decide) (by decide)
    obtain ⟨s', h1, h2, h3, h4⟩ := join_loop ys (x.join y) (n + 10) _ I2 (vE_set I1.v (by decide) _) (Hint.ok_join hx (hy y List.mem_cons_self)) (fun z hz => hy z (List.mem_cons_of_mem _ hz)) (by simp at hn; omega)
    refine ⟨s', ?_, h2, h3, by rw [h4, vE_ne (by decide), vE_ne (by decide)]⟩
    have hb : B_law_6 (List.set s 7 (some (.val y.d))) = some (.nx (List.set (List.set s 7 (some (.val y.d))) 6 (some (.val (x.join y).d)))) := by
      have e6 : vE 6 (List.set s 7 (some (.val y.d))) = some x.d := by rw [vE_ne (by decide)]; exact e
      have e7 : vE 7 (List.set s 7 (some (.val y.d))) = some y.d := vE_set h.v (by decide) _
      simp [-vE, -gVal, B_law_6, e6, e7, j, I1.v.g (i := 6) (by decide)]
    show ((gVal 7 y.d s).bind fun s1 => _) = _
    rw [h.v.g (by decide)]
    show ((B_law_6 _).bind _) = _
    rw [hb]
    exact h1
theorem eqv_ds : ∀ (hs : List Hint), PyData.eqvAll (hs.map Hint.d) (hs.map Hint.d) = true
  | [] => by simp [PyData.eqvAll]
  | h :: hs => by simp [PyData.eqvAll, eq_self, eqv_ds hs]
theorem depth_d (x : Hint) : PyData.depth x.d ≤ 2 := by cases x <;> simp [Hint.d, PyData.depth, PyData.depthAll]
theorem nodict_d (x : Hint) : noDict x.d = true := by cases x <;> simp [Hint.d]
theorem same_list (a b c d : Hint) : dNeD (.list [a.d, b.d, c.d, d.d]) (.list [a.d, b.d, c.d, d.d]) = some (.bool false) := by
  have e := eqv_ds [a, b, c, d]
  have h1 := depth_d a
  have h2 := depth_d b
  have h3 := depth_d c
  have h4 := depth_d d
  simp only [List.map_cons, List.map_nil] at e
  have h5 : PyData.depth (.list [a.d, b.d, c.d, d.d]) ≤ 64 := by simp [PyData.depth, PyData.depthAll]; omega
  simp [PyData.eqv, e, nodict_d, h5]
end K14

set_option Elab.async false
set_option linter.all false
set_option autoImplicit false
set_option maxRecDepth 100000
set_option maxHeartbeats 4000000
namespace K14
open PySem PySem.Spec PyProof.Rows L2 DL
theorem Hint.ok_mono {n m : Nat} {x : Hint} (h : x.ok n) (k : n ≤ m) : x.ok m := by cases x <;> simp only [Hint.ok] at * <;> omega
section
variable {l : List Int} {a b c d : Hint}
abbrev HS (a b c d : Hint) : D := .list [a.d, b.d, c.d, d.d]
/-- the four hints are drawn -/
theorem draw_ok (hl : l.length = 48) {s : DSt} (t : Nat) (ht : t < 4) (hv : Val 15 s) (d1 : vE 1 s = some (.list (l.map .int))) (d2 : vE 2 s = some (.int t)) (n14 : s[14]? = some none) :
    ∃ a b c d : Hint, a.ok 10 ∧ b.ok 10 ∧ c.ok 10 ∧ d.ok 10 ∧ eLc (eRng1 (cE (.int 4))) (gVal 14) bYes (eCall den__law_hint (aCons (vE 1) (aCons (e2 dAdd (e2 dMul (cE (.int 12)) (vE 2)) (e2 dMul (cE (.int 3)) (vE 14))) aNil))) [14] s = some (HS a b c d) := by
  obtain ⟨a, ha, ea⟩ := hint_ok l (12 * t) (by omega)
  obtain ⟨b, hb, eb⟩ := hint_ok l (12 * t + 3) (by omega)
  obtain ⟨c, hc, ec⟩ := hint_ok l (12 * t + 6) (by omega)
  obtain ⟨d, hd, ed⟩ := hint_ok l (12 * t + 9) (by omega)
  refine ⟨a, b, c, d, ha, hb, hc, hd, ?_⟩
  have m1 : mulFits 12 (t : Int) = true := LW.mulFits_of (a := 10) (b := 10) (LW.log2_small (by decide) (by decide)) (LW.log2_small (by omega) (by decide)) (by decide)
  have m2 : mulFits 3 0 = true := by decide
  have m3 : mulFits 3 1 = true := by decide
  have m4 : mulFits 3 2 = true := by decide
  have m5 : mulFits 3 3 = true := by decide
  have hs : List.set s 14 none = s := by
    apply List.ext_getElem?
    intro i
    rw [List.getElem?_set]
    split
    · rename_i q
      subst q
      rw [if_pos (by rw [hv.len]; decide)]
      exact n14.symm
    · rfl
  have hlen : List.length s = 15 := hv.len
  have hr : (List.range 4) = [0, 1, 2, 3] := by decide
  have v1 : ∀ x : D, vE 1 (List.set s 14 (some (.val x))) = some (.list (l.map .int)) := fun x => by rw [vE_ne (by decide)]; exact d1
  have v2 : ∀ x : D, vE 2 (List.set s 14 (some (.val x))) = some (.int t) := fun x => by rw [vE_ne (by decide)]; exact d2
  have v3 : ∀ x : D, vE 14 (List.set s 14 (some (.val x))) = some x := fun x => vE_set hv (by decide) x
  have g : ∀ x : D, gVal 14 x s = some (List.set s 14 (some (.val x))) := fun x => hv.g (by decide) x
  rw [show ((12 * t : Nat) : Int) = 12 * (t : Int) + 0 from by omega] at ea
  rw [show ((12 * t + 3 : Nat) : Int) = 12 * (t : Int) + 3 from by omega] at eb
  rw [show ((12 * t + 6 : Nat) : Int) = 12 * (t : Int) + 6 from by omega] at ec
  rw [show ((12 * t + 9 : Nat) : Int) = 12 * (t : Int) + 9 from by omega] at ed
  rw [Int.add_zero] at ea
  have ow : okWipe s [14] = true := by
    unfold okWipe
    simp only [List.all_cons, n14]
    rfl
  have r4 : rng0 4 = some [natD 0, natD 1, natD 2, natD 3] := rng0_nat (n := 4) (by decide)
  simp [-vE, -gVal, -okWipe, ow, r4, lcD, hs, g, v1, v2, v3, m1, m2, m3, m4, m5, ea, eb, ec, ed, HS]
theorem count_body {s : DSt} (ha : a.ok 10) (hb : b.ok 10) (hc : c.ok 10) (hd : d.ok 10) (h : I l (HS a b c d) s) (n : Int) (ys : List Hint) (h5 : vE 5 s = some (.int n)) (hy : ∀ y ∈ ys, y.ok 10) (hys : ys.length ≤ 3)
    (c1 : cutD [a.d, b.d, c.d, d.d] (some 1) (some n) = ys.map Hint.d) (c2 : cutD [a.d, b.d, c.d, d.d] (some 0) (some n) = (a :: ys).map Hint.d) : ∃ s', B_law_7 s = some (.nx s') ∧ I l (HS a b c d) s' := by
  have I1 := h.set 6 a.d (by decide) (by decide) (by decide) (by decide)
  obtain ⟨s', h1, h2, h3, h4⟩ := join_loop ys a 10 _ I1 (vE_set h.v (by decide) _) ha hy (by omega)
  refine ⟨s', ?_, h2⟩
  have j := hint_join_ok a ys (Hint.ok_mono ha (by decide)) (fun y q => Hint.ok_mono (hy y q) (by decide)) (by omega)
  have v5 : vE 5 (List.set s 6 (some (.val a.d))) = some (.int n) := by rw [vE_ne (by decide)]; exact h5
  rw [v5] at h4
  unfold B_law_7
  rw [sSeq_nx (s1 := List.set s 6 (some (.val a.d))) (by
    have e0 : dIx (HS a b c d) (.int 0) = some a.d := rfl
    simp only [sSet, e2, cE, h.d3, e0, Option.bind_some, h.v.g (i := 6) (by decide)]
    rfl)]
  have it : eIter (eSl (vE 3) (oYes (cE (.int 1))) (oYes (vE 5))) (List.set s 6 (some (.val a.d))) = some (ys.map Hint.d) := by
    simp [-vE, I1.d3, v5, HS, c1]
  rw [sSeq_nx (s1 := s') (by rw [sFor_go it]; exact h1)]
  have js := same_d (ys.foldl Hint.join a)
  have sl := same_list a b c d
  simp [-vE, -gVal, -dNeD, h2.d3, h2.d4, h3, h4, HS, c2, js, sl]
  simp only [List.map_cons] at j
  rw [j]
  simp [-vE, -gVal, -dNeD, js, sl]
theorem ok100 {x : Hint} (h : x.ok 10) : x.ok 100 := Hint.ok_mono h (by decide)
theorem j2 (ha : a.ok 10) (hb : b.ok 10) : den_hint_join [.list [a.d, b.d]] = some (a.join b).d := hint_join_ok a [b] (ok100 ha) (by simp [ok100 hb]) (by simp)
theorem j4 (ha : a.ok 10) (hb : b.ok 10) (hc : c.ok 10) (hd : d.ok 10) : den_hint_join [.list [a.d, b.d, c.d, d.d]] = some (((a.join b).join c).join d).d := hint_join_ok a [b, c, d] (ok100 ha) (by simp [ok100 hb, ok100 hc, ok100 hd]) (by simp)
theorem jj (ha : a.ok 10) (hb : b.ok 10) (hc : c.ok 10) (hd : d.ok 10) : den_hint_join [.list [(a.join b).d, (c.join d).d]] = some (((a.join b).join c).join d).d := by
  have := hint_join_ok (a.join b) [c.join d] (Hint.ok_mono (Hint.ok_join ha hb) (by decide)) (by simp [Hint.ok_mono (m := 100) (Hint.ok_join hc hd) (by decide)]) (by simp)
  simp only [List.map_cons, List.map_nil, List.foldl_cons, List.foldl_nil] at this
  rw [this, Hint.assoc (a.join b) c d]
theorem texts_le {x : Hint} (h : x.ok 10) : ∀ t ∈ x.texts, t.length ≤ 30 := by
  cases x with
  | is s => intro t q; rw [List.mem_singleton.mp q]; simp only [Hint.ok] at h; omega
  | op a b =>
    intro t q
    obtain ⟨m, hm, rfl⟩ := List.mem_map.mp q
    simp only [Hint.ok] at h
    have : m.length ≤ 3 := by
      simp [somes] at hm
      rcases hm with rfl | rfl | rfl | rfl <;> decide
    simp
    omega
theorem tell_body {s : DSt} (ha : a.ok 10) (hb : b.ok 10) (h : I l (HS a b c d) s) (t u : List Nat) (ht : t ∈ a.texts) (hu : u ∈ b.texts) (h8 : vE 8 s = some (txt t)) (h9 : vE 9 s = some (txt u)) : B_law_4 s = some (.nx s) := by
  have l1 := texts_le ha t ht
  have l2 := texts_le hb u hu
  have hf : t.length + u.length ≤ sizeLine := fits l1 l2 (by decide)
  have told := told_join (a.texts_told t ht) (b.texts_told u hu)
  have e1 := law_tells_ok told
  have e2 := tells_ok told
  have e3 : cutD [a.d, b.d, c.d, d.d] (some 0) (some 2) = [a.d, b.d] := rfl
  simp [-vE, -gVal, B_law_4, h.d3, h8, h9, HS, e3, j2 ha hb, txt, hf, e1, e2]
theorem one_body {s : DSt} {x y : Hint} (hx : x.ok 10) (hy : y.ok 10) (h : I l (HS a b c d) s) (h10 : vE 10 s = some x.d) (h11 : vE 11 s = some y.d) : ∃ s', B_law_2 s = some (.nx s') ∧ I l (HS a b c d) s' ∧ vE 10 s' = some x.d := by
  have e1 := hint_one_ok (Hint.ok_mono hx (m := 1000) (by decide)) (Hint.ok_mono hy (m := 1000) (by decide))
  have e2 := law_hint_one_ok (Hint.ok_mono hx (m := 1000) (by decide)) (Hint.ok_mono hy (m := 1000) (by decide))
  obtain ⟨z, ez, lt, rt⟩ : ∃ z : Hint, (if x = y then x.d else (x.both y).d) = z.d ∧ (∀ t, x.told t → z.told t) ∧ (∀ t, y.told t → z.told t) := by
    by_cases h : x = y
    · rw [if_pos h]; exact ⟨x, rfl, fun t q => q, fun t q => h ▸ q⟩
    · rw [if_neg h]; exact ⟨_, rfl, fun t q => both_left q, fun t q => both_right q⟩
  rw [ez] at e1 e2
  have I1 := h.set 12 z.d (by decide) (by decide) (by decide) (by decide)
  have v10 : vE 10 (List.set s 12 (some (.val z.d))) = some x.d := by rw [vE_ne (by decide)]; exact h10
  have v11 : vE 11 (List.set s 12 (some (.val z.d))) = some y.d := by rw [vE_ne (by decide)]; exact h11
  have v12 : vE 12 (List.set s 12 (some (.val z.d))) = some z.d := vE_set h.v (by decide) _
  unfold B_law_2
  rw [sSeq_nx (s1 := List.set s 12 (some (.val z.d))) (by simp [-vE, -gVal, h10, h11, e1, h.v.g (i := 12) (by decide)])]
  rw [sSeq_nx (s1 := List.set s 12 (some (.val z.d))) (by simp [-vE, -gVal, v10, v11, v12, e2, same_d])]
  have tx := texts_ok (Hint.ok_mono hx (m := 1000) (by decide))
  have ty := texts_ok (Hint.ok_mono hy (m := 1000) (by decide))
  have lx : x.texts.length ≤ 4 := by cases x <;> simp [Hint.texts, somes]
  have ly : y.texts.length ≤ 4 := by cases y <;> simp [Hint.texts, somes]
  have ls : x.texts.length + y.texts.length ≤ sizeLine := fits lx ly (by decide)
  rw [sFor_go (items := (x.texts ++ y.texts).map txt) (by simp [-vE, v10, v11, tx, ty, ls])]
  obtain ⟨s', q1, q2, q3⟩ := loop_keep (g := gVal 13) (F := B_law_1) (items := (x.texts ++ y.texts).map txt) (fun s => I l (HS a b c d) s ∧ vE 10 s = some x.d ∧ vE 12 s = some z.d)
    (fun w s hw hs => by
      obtain ⟨t, ht, rfl⟩ := List.mem_map.mp hw
      obtain ⟨i1, i2, i3⟩ := hs
      have told : z.told t := by
        rcases List.mem_append.mp ht with q | q
        · exact lt t (x.texts_told t q)
        · exact rt t (y.texts_told t q)
      refine ⟨_, i1.v.g (by decide) _, _, .inl ?_, i1.set 13 (txt t) (by decide) (by decide) (by decide) (by decide), by rw [vE_ne (by decide)]; exact i2, by rw [vE_ne (by decide)]; exact i3⟩
      have v12 : vE 12 (List.set s 13 (some (.val (txt t)))) = some z.d := by rw [vE_ne (by decide)]; exact i3
      have v13 : vE 13 (List.set s 13 (some (.val (txt t)))) = some (txt t) := vE_set i1.v (by decide) _
      have e : den__law_tells [z.d, txt t] = some (.bool true) := law_tells_ok told
      simp [-vE, -gVal, B_law_1, v12, v13, e])
    _ ⟨I1, v10, v12⟩
  exact ⟨s', q1, q2, q3.1⟩

theorem turn_ok (hl : l.length = 48) {s : DSt} (t : Nat) (ht : t < 4) (hv : Val 15 s) (d1 : vE 1 s = some (.list (l.map .int))) (d2 : vE 2 s = some (.int t)) (n14 : s[14]? = some none) :
    ∃ s', B_law_8 s = some (.nx s') ∧ Val 15 s' ∧ vE 1 s' = some (.list (l.map .int)) ∧ s'[14]? = some none := by
  obtain ⟨a, b, c, d, ha, hb, hc, hd, e⟩ := draw_ok hl t ht hv d1 d2 n14
  have V3 := hv.set 3 (HS a b c d)
  have I0 : I l (HS a b c d) (List.set (List.set s 3 (some (.val (HS a b c d)))) 4 (some (.val (HS a b c d)))) :=
    ⟨V3.set 4 _, by rw [vE_ne (by decide), vE_ne (by decide)]; exact d1, by rw [vE_ne (by decide)]; exact vE_set hv (by decide) _, vE_set V3 (by decide) _, by rw [List.getElem?_set_ne (by decide), List.getElem?_set_ne (by decide)]; exact n14⟩
  unfold B_law_8
  rw [sSeq_nx (s1 := List.set s 3 (some (.val (HS a b c d)))) (by simp only [sSet, e, Option.bind_some, hv.g (i := 3) (by decide)]; rfl)]
  have v3 : vE 3 (List.set s 3 (some (.val (HS a b c d)))) = some (HS a b c d) := vE_set hv (by decide) _
  rw [sSeq_nx (s1 := List.set (List.set s 3 (some (.val (HS a b c d)))) 4 (some (.val (HS a b c d)))) (by simp [-vE, -gVal, v3, V3.g (i := 4) (by decide)])]
  generalize List.set (List.set s 3 (some (.val (HS a b c d)))) 4 (some (.val (HS a b c d))) = s0 at I0
  -- the counts
  obtain ⟨s1, q1, I1⟩ := loop_keep (g := gVal 5) (F := B_law_7) (items := [.int 2, .int 3, .int 4]) (I l (HS a b c d))
    (fun x s hx h => by
      have hs : ∀ n : Int, I l (HS a b c d) (List.set s 5 (some (.val (.int n)))) := fun n => h.set 5 _ (by decide) (by decide) (by decide) (by decide)
      have h5 : ∀ n : Int, vE 5 (List.set s 5 (some (.val (.int n)))) = some (.int n) := fun n => vE_set h.v (by decide) _
      simp only [List.mem_cons, List.not_mem_nil, or_false] at hx
      rcases hx with rfl | rfl | rfl
      · obtain ⟨s', k1, k2⟩ := count_body ha hb hc hd (hs 2) 2 [b] (h5 2) (by simp [hb]) (by simp) rfl rfl
        exact ⟨_, h.v.g (by decide) _, s', .inl k1, k2⟩
      · obtain ⟨s', k1, k2⟩ := count_body ha hb hc hd (hs 3) 3 [b, c] (h5 3) (by simp [hb, hc]) (by simp) rfl rfl
        exact ⟨_, h.v.g (by decide) _, s', .inl k1, k2⟩
      · obtain ⟨s', k1, k2⟩ := count_body ha hb hc hd (hs 4) 4 [b, c, d] (h5 4) (by simp [hb, hc, hd]) (by simp) rfl rfl
        exact ⟨_, h.v.g (by decide) _, s', .inl k1, k2⟩) s0 I0
  rw [sSeq_nx (s1 := s1) (by rw [sFor_go (items := [.int 2, .int 3, .int 4]) (by simp)]; exact q1)]
  have c1 : cutD [a.d, b.d, c.d, d.d] (some 0) (some 2) = [a.d, b.d] := rfl
  have c2 : cutD [a.d, b.d, c.d, d.d] (some 2) (some 4) = [c.d, d.d] := rfl
  have js := same_d (((a.join b).join c).join d)
  rw [sSeq_nx (s1 := s1) (by simp [-vE, -gVal, I1.d3, HS, c1, c2, j2 ha hb, j2 hc hd, j4 ha hb hc hd, jj ha hb hc hd, js])]
  have ta := texts_ok (Hint.ok_mono (m := 1000) ha (by decide))
  have tb := texts_ok (Hint.ok_mono (m := 1000) hb (by decide))
  have i0 : dIx (HS a b c d) (.int 0) = some a.d := rfl
  have i1 : dIx (HS a b c d) (.int 1) = some b.d := rfl
  obtain ⟨s2, q2, I2⟩ := loop_keep (g := gVal 8) (F := B_law_5) (items := a.texts.map txt) (I l (HS a b c d))
    (fun x s hx h => by
      obtain ⟨t, ht, rfl⟩ := List.mem_map.mp hx
      have hs := h.set 8 (txt t) (by decide) (by decide) (by decide) (by decide)
      have h8 : vE 8 (List.set s 8 (some (.val (txt t)))) = some (txt t) := vE_set h.v (by decide) _
      obtain ⟨s', k1, k2, _⟩ := loop_keep (g := gVal 9) (F := B_law_4) (items := b.texts.map txt) (fun s => I l (HS a b c d) s ∧ vE 8 s = some (txt t))
        (fun x s hx h => by
          obtain ⟨u, hu, rfl⟩ := List.mem_map.mp hx
          have hs := h.1.set 9 (txt u) (by decide) (by decide) (by decide) (by decide)
          have h9 : vE 9 (List.set s 9 (some (.val (txt u)))) = some (txt u) := vE_set h.1.v (by decide) _
          have h8 : vE 8 (List.set s 9 (some (.val (txt u)))) = some (txt t) := by rw [vE_ne (by decide)]; exact h.2
          exact ⟨_, h.1.v.g (by decide) _, _, .inl (tell_body ha hb hs t u ht hu h8 h9), hs, h8⟩) _ ⟨hs, h8⟩
      refine ⟨_, h.v.g (by decide) _, s', .inl ?_, k2⟩
      unfold B_law_5
      rw [sFor_go (items := b.texts.map txt) (by simp only [eIter, eCall, aCons, aNil, e2, cE, hs.d3, i1, Option.bind_some, Option.map_some, tb]; rfl)]
      exact k1) s1 I1
  rw [sSeq_nx (s1 := s2) (by
    rw [sFor_go (items := a.texts.map txt) (by simp only [eIter, eCall, aCons, aNil, e2, cE, I1.d3, i0, Option.bind_some, Option.map_some, ta]; rfl)]
    exact q2)]
  have mem : ∀ x ∈ [a.d, b.d, c.d, d.d], ∃ y : Hint, y.ok 10 ∧ x = y.d := fun x hx => by
    simp only [List.mem_cons, List.not_mem_nil, or_false] at hx
    rcases hx with rfl | rfl | rfl | rfl
    · exact ⟨a, ha, rfl⟩
    · exact ⟨b, hb, rfl⟩
    · exact ⟨c, hc, rfl⟩
    · exact ⟨d, hd, rfl⟩
  obtain ⟨s3, q3, I3⟩ := loop_keep (g := gVal 10) (F := B_law_3) (items := [a.d, b.d, c.d, d.d]) (I l (HS a b c d))
    (fun x s hx h => by
      obtain ⟨y, hy, rfl⟩ := mem x hx
      have hs := h.set 10 y.d (by decide) (by decide) (by decide) (by decide)
      have h10 : vE 10 (List.set s 10 (some (.val y.d))) = some y.d := vE_set h.v (by decide) _
      obtain ⟨s', k1, k2, _⟩ := loop_keep (g := gVal 11) (F := B_law_2) (items := [a.d, b.d, c.d, d.d]) (fun s => I l (HS a b c d) s ∧ vE 10 s = some y.d)
        (fun x s hx h => by
          obtain ⟨z, hz, rfl⟩ := mem x hx
          have hs := h.1.set 11 z.d (by decide) (by decide) (by decide) (by decide)
          have h11 : vE 11 (List.set s 11 (some (.val z.d))) = some z.d := vE_set h.1.v (by decide) _
          have h10 : vE 10 (List.set s 11 (some (.val z.d))) = some y.d := by rw [vE_ne (by decide)]; exact h.2
          obtain ⟨s', k1, k2, k3⟩ := one_body hy hz hs h10 h11
          exact ⟨_, h.1.v.g (by decide) _, s', .inl k1, k2, k3⟩) _ ⟨hs, h10⟩
      refine ⟨_, h.v.g (by decide) _, s', .inl ?_, k2⟩
      unfold B_law_3
      rw [sFor_go (items := [a.d, b.d, c.d, d.d]) (by simp only [eIter, hs.d3]; rfl)]
      exact k1) s2 I2
  refine ⟨s3, ?_, I3.v, I3.d1, I3.n14⟩
  rw [sFor_go (items := [a.d, b.d, c.d, d.d]) (by simp only [eIter, I2.d3]; rfl)]
  exact q3
end
theorem plain : Plain := by
  intro ns _ hb
  have hc := LW.cell_ok ns 0
  obtain ⟨l, hl, e⟩ := LW.numbers_ok (ns.getD 0 0) 48 5040 (by decide) (by decide) (by decide) (LW.cell_bits hb 0)
  let s0 : DSt := some (.val (.list (ns.map .int))) :: some (.val (.list (l.map .int))) :: List.replicate 13 none
  have V0 : Val 15 s0 := ⟨rfl, fun i => by
    match i with
    | 0 | 1 | 2 | 3 | 4 | 5 | 6 | 7 | 8 | 9 | 10 | 11 | 12 | 13 | 14 => rfl
    | n + 15 => rfl⟩
  have r4 : rng0 4 = some ((List.range 4).map natD) := rng0_nat (n := 4) (by decide)
  obtain ⟨s', q, _, _, _⟩ := loop_inv (g := gVal 2) (F := B_law_8) (items := (List.range 4).map natD) (fun _ s => Val 15 s ∧ vE 1 s = some (.list (l.map .int)) ∧ s[14]? = some none)
    (fun i x s hx hs => by
      obtain ⟨h1, h2, h3⟩ := hs
      have hi : i < 4 := by
        have := (List.getElem?_eq_some_iff.mp hx).1
        simpa using this
      have hx' : x = .int (i : Int) := by
        have := hx
        simp [hi] at this
        exact this.symm
      subst hx'
      obtain ⟨s', k1, k2, k3, k4⟩ := turn_ok hl.len i hi (h1.set 2 (.int i)) (by rw [vE_ne (by decide)]; exact h2) (vE_set h1 (by decide) _) (by rw [List.getElem?_set_ne (by decide)]; exact h3)
      exact ⟨_, h1.g (by decide) _, s', .inl k1, k2, k3, k4⟩) s0 ⟨V0, rfl, rfl⟩
  show den_law _ = _
  refine runD_ret rfl (s := s') ?_
  unfold F_law
  rw [sSeq_nx (s1 := s0) (by
    have hc' : LW.den__law_cell [.list (ns.map .int), .int 0] = some (.int (ns.getD 0 0)) := hc
    have e' : LW.den__law_numbers [.int (ns.getD 0 0), .int 48, .int 5040] = some (.list (l.map .int)) := e
    simp only [sSet, eCall, aCons, aNil, cE, vE, List.map_cons, List.map_nil, List.cons_append, List.getElem?_cons_zero, Option.bind_some, Option.map_some, hc', e']
    rfl)]
  rw [sSeq_nx (s1 := s') (by rw [sFor_go (items := (List.range 4).map natD) r4]; exact q)]
  rfl
end K14

open PySem PySem.W PyProof.Rows
set_option maxRecDepth 100000 in
set_option maxHeartbeats 0 in
theorem PySem.Challenge.cw_asifanew_k14_hints_put_together_holds : PySem.Challenge.rw_asifanew_k14_hints_put_together.Holds := by
  w_on; o_law; k_head; (case hw => w_witness2)
  k_fill
  refine K14.walk (l := PySem.Challenge.rw_asifanew_k14_hints_put_together) rfl rfl (fun w h Y => PySem.W.kIn_of Y) ?F
  case F =>
    intro w mg fa h KX G hmg
    refine' K14.all_mk K14.plain KX G hmg ?a0 ?l0 ?c0 ?k0 ?a1 ?l1 ?c1 ?k1 ?a2 ?l2 ?c2 ?k2 ?a3 ?l3 ?c3 ?k3 ?a4 ?l4 ?c4 ?k4 ?a5 ?l5 ?c5 ?k5 ?a6 ?l6 ?c6 ?k6 ?a7 ?l7 ?c7 ?k7 ?a8 ?l8 ?c8 ?k8 ?a9 ?l9 ?c9 ?k9 ?a10 ?l10 ?c10 ?k10 ?a11 ?l11 ?c11 ?k11 ?a12 ?l12 ?c12 ?k12 ?a13 ?l13 ?c13 ?k13 ?a14 ?l14 ?c14 ?k14 ?a15 ?l15 ?c15 ?k15 ?a16 ?l16 ?c16 ?k16 ?z0 ?z1 ?z2 ?z3 ?z4 ?z5 ?z6 ?z7 ?z8 ?z9 ?q0 ?r0 ?q1 ?r1 ?q2 ?r2
    (case a0 => k_is)
    (case l0 => k_is)
    (case c0 => k_is)
    (case k0 => k_is)
    (case a1 => k_is)
    (case l1 => k_is)
    (case c1 => k_is)
    (case k1 => k_is)
    (case a2 => k_is)
    (case l2 => k_is)
    (case c2 => k_is)
    (case k2 => k_is)
    (case a3 => k_is)
    (case l3 => k_is)
    (case c3 => k_is)
    (case k3 => k_is)
    (case a4 => k_is)
    (case l4 => k_is)
    (case c4 => k_is)
    (case k4 => k_is)
    (case a5 => k_is)
    (case l5 => k_is)
    (case c5 => k_is)
    (case k5 => k_is)
    (case a6 => k_is)
    (case l6 => k_is)
    (case c6 => k_is)
    (case k6 => k_is)
    (case a7 => k_is)
    (case l7 => k_is)
    (case c7 => k_is)
    (case k7 => k_is)
    (case a8 => k_is)
    (case l8 => k_is)
    (case c8 => k_is)
    (case k8 => k_is)
    (case a9 => k_is)
    (case l9 => k_is)
    (case c9 => k_is)
    (case k9 => k_is)
    (case a10 => k_is)
    (case l10 => k_is)
    (case c10 => k_is)
    (case k10 => k_is)
    (case a11 => k_is)
    (case l11 => k_is)
    (case c11 => k_is)
    (case k11 => k_is)
    (case a12 => k_is)
    (case l12 => k_is)
    (case c12 => k_is)
    (case k12 => k_is)
    (case a13 => k_is)
    (case l13 => k_is)
    (case c13 => k_is)
    (case k13 => k_is)
    (case a14 => k_is)
    (case l14 => k_is)
    (case c14 => k_is)
    (case k14 => k_is)
    (case a15 => k_is)
    (case l15 => k_is)
    (case c15 => k_is)
    (case k15 => k_is)
    (case a16 => k_is)
    (case l16 => k_is)
    (case c16 => k_is)
    (case k16 => k_is)
    (case z0 => k_is)
    (case z1 => k_is)
    (case z2 => k_is)
    (case z3 => k_is)
    (case z4 => k_is)
    (case z5 => k_is)
    (case z6 => k_is)
    (case z7 => k_is)
    (case z8 => k_is)
    (case z9 => k_is)
    (case q0 => k_is)
    (case r0 => decide +kernel)
    (case q1 => k_is)
    (case r1 => decide +kernel)
    (case q2 => k_is)
    (case r2 => decide +kernel)
